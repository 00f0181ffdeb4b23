import PyProof.Rows.All
import HandS.ForMost
import HandS.ForExc
import HandS.Wide
import HandS.IsInst
import HandS.Style
import HandS.TupAny
import HandS.TupMul
import HandS.Zip
import HandS.Deep
import HandS.ExcSuper
import HandS.Defaults
import HandS.TryOnly
import HandS.TryMany
import HandS.ExcField
import KE.KStateDown
import HandS.Head0
import HandS.Head1
import HandS.Head2
import HandS.HeadEnd
import HandS.HeadHook1
import HandS.HeadHook2
import PySem.Challenge.RW_chancesmoved_k02_whole_tables_and_coupli
set_option Elab.async false
set_option linter.all false
set_option maxRecDepth 100000
/-! Iv: a small interpreter over pure value trees. -/
namespace Iv
open PySem

/-! ### values -/
inductive T where
  | non | bl (b : Bool) | int (i : Int) | str (s : Str)
  | tup (ts : List T) | lst (o : Bool) (ts : List T)
  | dic (o : Bool) (ks vs : List T) | obj (c : Nat) (t : T) | clo (k : Nat) (ts : List T)
  | scr (ns : List Int)
  deriving Inhabited
mutual
/-- frozen, deep -/
def frz : T → T
  | .tup ts => .tup (frzs ts)
  | .lst _ ts => .lst false (frzs ts)
  | .dic _ ks vs => .dic false ks (frzs vs)
  | .obj c t => .obj c (frz t)
  | .clo k ts => .clo k (frzs ts)
  | .non => .non | .bl b => .bl b | .int i => .int i | .str s => .str s | .scr n => .scr n
def frzs : List T → List T
  | [] => []
  | t :: r => frz t :: frzs r
end
mutual
def isF : T → Bool
  | .tup ts => isFs ts
  | .lst o ts => !o && isFs ts
  | .dic o _ vs => !o && isFs vs
  | .obj _ t => isF t
  | .clo _ ts => isFs ts
  | .non => true | .bl _ => true | .int _ => true | .str _ => true | .scr _ => true
def isFs : List T → Bool
  | [] => true
  | t :: r => isF t && isFs r
end
mutual
/-- depth, as data -/
def dep : T → Nat
  | .tup ts => deps ts + 1
  | .lst _ ts => deps ts + 1
  | .dic _ _ _ => 1000 | .obj _ _ => 1000 | .clo _ _ => 1000 | .scr _ => 1000
  | .non => 0 | .bl _ => 0 | .int _ => 0 | .str _ => 0
def deps : List T → Nat
  | [] => 0
  | t :: r => max (dep t) (deps r)
end
mutual
/-- texts that can be laid -/
def sok : T → Bool
  | .tup ts => soks ts
  | .lst _ ts => soks ts
  | .dic _ _ _ => false | .obj _ _ => false | .clo _ _ => false | .scr _ => false
  | .str s => PySem.PyData.canLay0 (.str s)
  | .non => true | .bl _ => true | .int _ => true
def soks : List T → Bool
  | [] => true
  | t :: r => sok t && soks r
end
mutual
def eqT : T → T → Bool
  | .non, .non => true
  | .bl a, .bl b => a == b
  | .bl a, .int j => (if a then 1 else 0) == j
  | .int i, .bl b => i == (if b then 1 else 0)
  | .int i, .int j => i == j
  | .str x, .str y => x == y
  | .lst _ xs, .lst _ ys => eqTs xs ys
  | .tup xs, .tup ys => eqTs xs ys
  | _, _ => false
def eqTs : List T → List T → Bool
  | [], [] => true
  | x :: xs, y :: ys => eqT x y && eqTs xs ys
  | [], _ :: _ => false
  | _ :: _, [] => false
end
def shp (t : T) : Bool := sok t && decide (dep t ≤ 60)

/-! ### results -/
abbrev Env := List (Option T)
inductive R (α : Type) where
  | ok (a : α) (e : Env)
  | exc (c : Nat) (p : T) (e : Env)
  | bad
def R.bind {α β : Type} (r : R α) (k : α → Env → R β) : R β := match r with
  | .ok a e => k a e
  | .exc c p e => .exc c p e
  | .bad => .bad
def R.of {α : Type} (o : Option α) (e : Env) : R α := match o with
  | some a => .ok a e
  | none => .bad
@[simp] theorem R.bind_ok {α β : Type} (a : α) (e : Env) (k : α → Env → R β) : (R.ok a e).bind k = k a e := rfl
@[simp] theorem R.bind_exc {α β : Type} (c : Nat) (p : T) (e : Env) (k : α → Env → R β) : (R.exc c p e : R α).bind k = .exc c p e := rfl
@[simp] theorem R.bind_bad {α β : Type} (k : α → Env → R β) : (R.bad : R α).bind k = .bad := rfl
@[simp] theorem R.of_some {α : Type} (a : α) (e : Env) : R.of (some a) e = .ok a e := rfl
@[simp] theorem R.of_none {α : Type} (e : Env) : R.of (none : Option α) e = .bad := rfl
inductive Cr where
  | ok (t : T) (io : T)
  | exc (c : Nat) (p : T) (io : T)
  | bad
structure Cn where
  /-- slot 0 is handed in and out -/
  io : Bool
  call : Nat → List T → Cr
  new : Nat → List T → Cr
  clo : Nat → List T → List T → Cr

/-! ### the text -/
inductive BOp where | add | sub | mul | fdiv | mod | pow | shl | shr | band | bor
  deriving DecidableEq
inductive COp where | eq | ne | lt | le | gt | ge | in_ | notin
  deriving DecidableEq
inductive Prim where | len | abs | int | tuple | list | all | any | sum | sorted | max | min | str
  deriving DecidableEq
inductive Kd where | int | bool | tuple | list | str | cls (c : Nat)
  deriving DecidableEq
mutual
inductive E where
  | var (i : Nat) | mov (i : Nat)
  | non | bl (b : Bool) | int (i : Int) | str (s : Str)
  | tup (es : Es) | lst (es : Es)
  | bin (o : BOp) (a b : E) | neg (a : E) | not (a : E)
  | and (a b : E) | or (a b : E) | ife (c a b : E)
  | cmp (o : COp) (a b : E) | cmpL (o : COp) (x : Nat) (b : E) | cmpR (o : COp) (a : E) (x : Nat) | chain (o p : COp) (a b c : E)
  | isn (ng : Bool) (a : E) | isnv (ng : Bool) (x : Nat) | isb (ng : Bool) (a : E) (b : Bool)
  | ix (x : Nat) (i : E) | ix2 (x : Nat) (i j : E) | idx (a i : E)
  | sl (a : E) (lo hi : Eo) | slv (x : Nat) (lo hi : Eo) | rev (a : E) | revv (x : Nat)
  | call (f : Nat) (as : Es) | cio (f : Nat) (x : Nat) (as : Es) | meth (f : Nat) (o : E) (as : Es) | new (c : Nat) (as : Es) | clc (x : Nat) (as : Es)
  | prim (p : Prim) (a : E) | primv (p : Prim) (x : Nat) | prim2 (p : Prim) (a b : E)
  | isi (a : E) (k : Kd) | isiv (x : Nat) (k : Kd)
  | fld (a : E) (f : Str)
  | lc (own : List Nat) (tg : Tg) (s : Sr) (c : Eo) (e : E)
  | lc2 (own : List Nat) (tg : Tg) (s : Sr) (c : Eo) (own2 : List Nat) (tg2 : Tg) (s2 : Sr) (c2 : Eo) (e : E)
  | pop (x : Nat)
  | lam (k : Nat) (xs : List Nat)
  | never
inductive Es where
  | nil | cons (e : E) (r : Es)
inductive Eo where
  | non | som (e : E)
inductive Sr where
  | seq (e : E) | rg1 (a : E) | rg2 (a b : E) | zip (a b : E)
inductive Tg where
  | nm (i : Nat) | ix (x : Nat) (i : E) | ix2 (x : Nat) (i j : E) | tp (ts : Tgs)
inductive Tgs where
  | nil | cons (t : Tg) (r : Tgs)
end
def Tgs.len : Tgs → Nat
  | .nil => 0
  | .cons _ r => r.len + 1
def Es.len : Es → Nat
  | .nil => 0
  | .cons _ r => r.len + 1
mutual
/-- what an except suite hands back -/
inductive Xe where
  | pl | nm | str (s : Str) | bl (b : Bool) | int (i : Int) | non | tup (xs : Xes)
inductive Xes where
  | nil | cons (x : Xe) (r : Xes)
end
/-- an except clause: the class, the name's slot, whether isinstance(e, ValueError) is asked ahead, what is handed back -/
structure Hd where
  cls : Nat
  slot : Option Nat
  asks : Bool
  gives : Xe
mutual
inductive S where
  | asg (t : Tg) (e : E) | par (is : List Nat) (es : Es)
  | aug (i : Nat) (o : BOp) (e : E) | augi (x : Nat) (i : E) (o : BOp) (e : E)
  | app (x : Nat) (e : E) | insr (x : Nat) (a b : E) | ext (x : Nat) (e : E)
  | exp (e : E) | ife (c : E) (a b : Ss) | whl (c : E) (b : Ss) | for (t : Tg) (s : Sr) (b : Ss)
  | ret (e : E) | retN | brk | cont | pass
  | raise (c : Nat) (e : E)
  | try (b : Ss) (hs : List Hd)
  | never
inductive Ss where
  | nil | cons (s : S) (r : Ss)
end
inductive Fl where
  | nx | rt (t : T) | bk | ct

/-! ### operations -/
def SZ : Nat := 16777216
def mulOk (a b : Int) : Bool := decide (a.natAbs < 2 ^ 64) || decide (b.natAbs < 2 ^ 64) || decide (a.natAbs.log2 + b.natAbs.log2 < 1000000)
def repl (k : Int) (ts : List T) : List T := (List.replicate k.toNat ts).flatten
def bin : BOp → T → T → Option T
  | .add, .int a, .int b => some (.int (a + b))
  | .add, .tup a, .tup b => if a.length + b.length ≤ SZ then some (.tup (a ++ b)) else none
  | .add, .lst _ a, .lst _ b => if a.length + b.length ≤ SZ then some (.lst true (a ++ b)) else none
  | .add, .str a, .str b => if a.length + b.length ≤ SZ then some (.str (a ++ b)) else none
  | .sub, .int a, .int b => some (.int (a - b))
  | .mul, .int a, .int b => if mulOk a b then some (.int (a * b)) else none
  | .mul, .tup a, .int k => if isFs a && decide (k ≤ 1000) && decide (a.length ≤ 1000) && decide (-1000 ≤ k) then some (.tup (repl k a)) else none
  | .mul, .lst _ a, .int k => if isFs a && decide (-(2 ^ 63) ≤ k) && decide (k < 2 ^ 63) && decide (a.length * k.toNat ≤ SZ) then some (.lst true (repl k a)) else none
  | .fdiv, .int a, .int b => if b ≠ 0 ∧ b.natAbs.log2 < 9000 then some (.int (a.fdiv b)) else none
  | .mod, .int a, .int b => if b ≠ 0 then some (.int (a.fmod b)) else none
  | .pow, .int a, .int b => if 0 ≤ b ∧ b ≤ 1000000 ∧ a.natAbs < 2 ^ 64 then some (.int (a ^ b.toNat)) else none
  | _, _, _ => none
def memT (a : T) : List T → Bool
  | [] => false
  | t :: r => eqT t a || memT a r
def cmp : COp → T → T → Option Bool
  | .eq, a, b => if shp a && shp b then some (eqT a b) else none
  | .ne, a, b => if shp a && shp b then some (!eqT a b) else none
  | .lt, .int a, .int b => some (decide (a < b))
  | .le, .int a, .int b => some (decide (a ≤ b))
  | .gt, .int a, .int b => some (decide (b < a))
  | .ge, .int a, .int b => some (decide (b ≤ a))
  | .in_, a, .lst _ ts => if shp a && shp (.lst false ts) then some (memT a ts) else none
  | .notin, a, .lst _ ts => if shp a && shp (.lst false ts) then some (!memT a ts) else none
  | .in_, a, .tup ts => if shp a && shp (.lst false ts) then some (memT a ts) else none
  | .notin, a, .tup ts => if shp a && shp (.lst false ts) then some (!memT a ts) else none
  | _, _, _ => none
def isNon : T → Bool
  | .non => true
  | _ => false
def items : T → Option (List T)
  | .tup ts => some ts
  | .lst _ ts => some ts
  | _ => none
def at_ (t : T) (i : T) : Option T := match t, i with
  | .tup ts, .int k => L2.atI ts k
  | .lst _ ts, .int k => L2.atI ts k
  | _, _ => none
def cutT (ts : List T) (lo hi : Option Int) : List T := (ts.drop (HT.sIx ts.length 0 lo)).take (HT.sIx ts.length ts.length hi - HT.sIx ts.length 0 lo)
def slice (t : T) (lo hi : Option Int) : Option T := match t with
  | .tup ts => if isFs ts then some (.tup (cutT ts lo hi)) else none
  | .lst _ ts => if isFs ts then some (.lst true (cutT ts lo hi)) else none
  | _ => none
def reved (t : T) : Option T := match t with
  | .tup ts => if isFs ts then some (.tup ts.reverse) else none
  | .lst _ ts => if isFs ts then some (.lst true ts.reverse) else none
  | _ => none
def boolsT : List T → Option (List Bool)
  | [] => some []
  | .bl b :: r => (boolsT r).map (b :: ·)
  | _ => none
def intsT : List T → Option (List Int)
  | [] => some []
  | .int b :: r => (intsT r).map (b :: ·)
  | _ => none
def prim : Prim → T → Option T
  | .len, .tup ts => some (.int ts.length)
  | .len, .lst _ ts => some (.int ts.length)
  | .abs, .int i => some (.int (if i < 0 then -i else i))
  | .int, .int i => some (.int i)
  | .int, .bl b => some (.int (if b then 1 else 0))
  | .tuple, .tup ts => if isFs ts then some (.tup ts) else none
  | .tuple, .lst _ ts => if isFs ts then some (.tup ts) else none
  | .list, .tup ts => if isFs ts then some (.lst true ts) else none
  | .list, .lst _ ts => if isFs ts then some (.lst true ts) else none
  | .list, .scr ns => some (.lst true (ns.map .int))
  | .all, .lst _ ts => (boolsT ts).map fun bs => .bl (bs.all id)
  | .any, .lst _ ts => (boolsT ts).map fun bs => .bl (bs.any id)
  | .sum, .lst _ ts => (intsT ts).map fun ns => .int ns.sum
  | _, _ => none
def prim2 : Prim → T → T → Option T
  | .max, .int i, .int j => some (.int (if j > i then j else i))
  | .min, .int i, .int j => some (.int (if j < i then j else i))
  | _, _, _ => none
def isKd : T → Kd → Option Bool
  | .int _, .int => some true
  | .bl _, .int => some true
  | .bl _, .bool => some true
  | .tup _, .tuple => some true
  | .lst _ _, .list => some true
  | .str _, .str => some true
  | .dic _ _ _, _ => none
  | .scr _, _ => none
  | .clo _ _, _ => none
  | .obj _ _, _ => none
  | _, .cls _ => none
  | _, _ => some false
def fieldOf : T → Str → Option T
  | .obj c t, f => if f == ("pairs" : Str) then some t else none
  | _, _ => none

def gt (e : Env) (i : Nat) : Option T := (e[i]?).join
def wipe (e : Env) : List Nat → Env
  | [] => e
  | v :: vs => (wipe e vs).set v none
/-- put the slots is of e back as they stand in e0 -/
def restore (e0 e : Env) : List Nat → Env
  | [] => e
  | v :: vs => (restore e0 e vs).set v (gt e0 v)
/-- the slot holds something -/
def has {α : Type} (e : Env) (i : Nat) (r : R α) : R α := match gt e i with
  | some _ => r
  | none => .bad
def hasL {α : Type} (e : Env) (i : Nat) (r : R α) : R α := match gt e i with
  | some (.lst _ _) => r
  | _ => .bad
/-- a op= b: of ints -/
def iop : BOp → T → T → Option T
  | .add, .int a, .int b => some (.int (a + b))
  | .sub, .int a, .int b => some (.int (a - b))
  | .mul, .int a, .int b => if mulOk a b then some (.int (a * b)) else none
  | _, _, _ => none
def readV (e : Env) (i : Nat) : R T := match gt e i with
  | some t => if isF t then .ok t e else .ok (frz t) (e.set i (some (frz t)))
  | none => .bad
def moveV (io : Bool) (e : Env) (i : Nat) : R T := match gt e i with
  | some t => if io && i == 0 then .bad else .ok t (e.set i none)
  | none => .bad
def fz (t : T) (e : Env) : R T := if isF t then .ok t e else .bad
def boolR (o : Option Bool) (e : Env) : R T := match o with
  | some b => .ok (.bl b) e
  | none => .bad
def optI (t : T) : Option Int := match t with
  | .int i => some i
  | _ => none
def RGB : Int := 4611686018427387904
def rangeT (i j : Int) : Option (List T) := if -RGB ≤ i ∧ i < RGB ∧ -RGB ≤ j ∧ j < RGB then some ((List.range (j - i).toNat).map fun k => T.int (i + (k : Nat))) else none
def setNm (io : Bool) (i : Nat) (t : T) (e : Env) : R Unit := if (io && i == 0) || decide (e.length ≤ i) then .bad else .ok () (e.set i (some t))
def setIx (x : Nat) (i t : T) (e : Env) : R Unit := match gt e x, i with
  | some (.lst true ts), .int k => (match L2.ixN ts.length k with
    | some j => .ok () (e.set x (some (.lst true (ts.set j t))))
    | none => .bad)
  | _, _ => .bad
def setIx2 (x : Nat) (i j t : T) (e : Env) : R Unit := match gt e x, i, j with
  | some (.lst true ts), .int k, .int l => (match L2.ixN ts.length k with
    | some n => (match ts[n]? with
      | some (.lst true us) => (match L2.ixN us.length l with
        | some m => .ok () (e.set x (some (.lst true (ts.set n (.lst true (us.set m t))))))
        | none => .bad)
      | _ => .bad)
    | none => .bad)
  | _, _, _ => .bad
def lcLoop (f : T → Env → R (List T)) : List T → Env → R (List T)
  | [], e => .ok [] e
  | t :: r, e => (f t e).bind fun xs e1 => (lcLoop f r e1).bind fun ys e2 => .ok (xs ++ ys) e2
def noExc {α : Type} : R α → R α
  | .ok a e => .ok a e
  | _ => .bad
def ownOk (e0 : Env) (own : List Nat) : Bool := own.all fun v => match gt e0 v with
  | some t => isF t
  | none => true
def lcEnd (e0 : Env) (own : List Nat) : R (List T) → R T
  | .ok ts e => if ts.length ≤ SZ ∧ ownOk e0 own = true then .ok (.lst true ts) (restore e0 e own) else .bad
  | _ => .bad
def whlLoop (c : Env → R T) (b : Env → R Fl) : Nat → Env → R Fl
  | 0, _ => .bad
  | n + 1, e => (c e).bind fun t e1 => match t with
    | .bl true => (b e1).bind fun f e2 => (match f with
      | .nx => whlLoop c b n e2
      | .ct => whlLoop c b n e2
      | .bk => .ok .nx e2
      | .rt t => .ok (.rt t) e2)
    | .bl false => .ok .nx e1
    | _ => .bad
def forLoop (b : T → Env → R Fl) : List T → Env → R Fl
  | [], e => .ok .nx e
  | t :: r, e => (b t e).bind fun f e2 => match f with
    | .nx => forLoop b r e2
    | .ct => forLoop b r e2
    | .bk => .ok .nx e2
    | .rt t => .ok (.rt t) e2
def FU : Nat := 1000000000000
def crR (r : Cr) (e : Env) : R T := match r with
  | .ok t _ => .ok t e
  | .exc c p _ => .exc c p e
  | .bad => .bad
def crIo (r : Cr) (x : Nat) (e : Env) : R T := match r with
  | .ok t i => .ok t (e.set x (some i))
  | .exc c p i => .exc c p (e.set x (some i))
  | .bad => .bad
/-- an index that changes nothing -/
def pv : E → Env → Option Int
  | .var i, e => (match gt e i with
    | some (.int k) => some k
    | _ => none)
  | .int k, _ => some k
  | .bin .add a b, e => (match pv a e, pv b e with
    | some i, some j => some (i + j)
    | _, _ => none)
  | .bin .sub a b, e => (match pv a e, pv b e with
    | some i, some j => some (i - j)
    | _, _ => none)
  | .neg a, e => (match pv a e with
    | some i => some (-i)
    | _ => none)
  | _, _ => none

mutual
def ev (C : Cn) : E → Env → R T
  | .var i, e => readV e i
  | .mov i, e => moveV C.io e i
  | .non, e => .ok .non e
  | .bl b, e => .ok (.bl b) e
  | .int i, e => .ok (.int i) e
  | .str s, e => .ok (.str s) e
  | .tup es, e => (evs C es e).bind fun ts e => .ok (.tup ts) e
  | .lst es, e => (evs C es e).bind fun ts e => .ok (.lst true (frzs ts)) e
  | .bin o a b, e => (ev C a e).bind fun x e => (ev C b e).bind fun y e => R.of (bin o x y) e
  | .neg a, e => (ev C a e).bind fun x e => (match x with
    | .int i => .ok (.int (-i)) e
    | _ => .bad)
  | .not a, e => (ev C a e).bind fun x e => (match x with
    | .bl b => .ok (.bl (!b)) e
    | _ => .bad)
  | .and a b, e => (ev C a e).bind fun x e => (match x with
    | .bl true => ev C b e
    | .bl false => .ok (.bl false) e
    | _ => .bad)
  | .or a b, e => (ev C a e).bind fun x e => (match x with
    | .bl true => .ok (.bl true) e
    | .bl false => ev C b e
    | _ => .bad)
  | .ife c a b, e => (ev C c e).bind fun x e => (match x with
    | .bl true => ev C a e
    | .bl false => ev C b e
    | _ => .bad)
  | .cmp o a b, e => (ev C a e).bind fun x e => (ev C b e).bind fun y e => boolR (cmp o x y) e
  | .cmpL o x b, e => has e x ((ev C b e).bind fun y e => (match gt e x with
    | some t => boolR (cmp o t y) e
    | none => .bad))
  | .cmpR o a x, e => (ev C a e).bind fun y e => (match gt e x with
    | some t => boolR (cmp o y t) e
    | none => .bad)
  | .chain o p a b c, e => (ev C a e).bind fun x e => (ev C b e).bind fun y e => (match cmp o x y with
    | some true => (ev C c e).bind fun z e => boolR (cmp p y z) e
    | some false => .ok (.bl false) e
    | none => .bad)
  | .isn ng a, e => (ev C a e).bind fun x e => .ok (.bl (isNon x != ng)) e
  | .isnv ng x, e => (match gt e x with
    | some t => .ok (.bl (isNon t != ng)) e
    | none => .bad)
  | .isb ng a b, e => (ev C a e).bind fun x e => (match x with
    | .bl c => .ok (.bl ((c == b) != ng)) e
    | _ => .bad)
  | .ix x i, e => has e x ((ev C i e).bind fun k e => (match gt e x with
    | some t => (match at_ t k with
      | some u => fz u e
      | none => .bad)
    | none => .bad))
  | .ix2 x i j, e => has e x ((ev C i e).bind fun k e => (match gt e x, pv j e with
    | some t, some l => (match at_ t k with
      | some u => (match at_ u (.int l) with
        | some v => fz v e
        | none => .bad)
      | none => .bad)
    | _, _ => .bad))
  | .idx a i, e => (ev C a e).bind fun t e => (ev C i e).bind fun k e => (match at_ t k with
    | some u => fz u e
    | none => .bad)
  | .sl a lo hi, e => (ev C a e).bind fun t e => (evo C lo e).bind fun l e => (evo C hi e).bind fun h e => R.of (slice t l h) e
  | .slv x lo hi, e => has e x ((evo C lo e).bind fun l e => (evo C hi e).bind fun h e => (match gt e x with
    | some t => R.of (slice t l h) e
    | none => .bad))
  | .rev a, e => (ev C a e).bind fun t e => R.of (reved t) e
  | .revv x, e => (match gt e x with
    | some t => R.of (reved t) e
    | none => .bad)
  | .call f as, e => (evs C as e).bind fun ts e => crR (C.call f (frzs ts)) e
  | .cio f x as, e => has e x ((evs C as e).bind fun ts e => (match gt e x with
    | some t => crIo (C.call f (t :: frzs ts)) x e
    | none => .bad))
  | .meth f o as, e => (ev C o e).bind fun x e => (evs C as e).bind fun ts e => crR (C.call f (frz x :: frzs ts)) e
  | .new c as, e => (evs C as e).bind fun ts e => crR (C.new c (frzs ts)) e
  | .clc x as, e => has e x ((evs C as e).bind fun ts e => (match gt e x with
    | some (.clo k us) => crR (C.clo k us (frzs ts)) e
    | _ => .bad))
  | .prim p a, e => (ev C a e).bind fun x e => R.of (prim p x) e
  | .primv p x, e => (match gt e x with
    | some t => R.of (prim p t) e
    | none => .bad)
  | .prim2 p a b, e => (ev C a e).bind fun x e => (ev C b e).bind fun y e => R.of (prim2 p x y) e
  | .isi a k, e => (ev C a e).bind fun x e => boolR (isKd x k) e
  | .isiv x k, e => (match gt e x with
    | some t => boolR (isKd t k) e
    | none => .bad)
  | .fld a f, e => (ev C a e).bind fun x e => R.of (fieldOf x f) e
  | .lc own tg s c x, e => (srs C s e).bind fun its e0 =>
      lcEnd e0 own (lcLoop (fun t e1 => (asgTg C tg t (wipe e1 own)).bind fun _ e2 => (cnd C c e2).bind fun b e3 =>
        if b = true then (ev C x e3).bind fun y e4 => .ok [y] e4 else .ok [] e3) its e0)
  | .lc2 own tg s c own2 tg2 s2 c2 x, e => (srs C s e).bind fun its e0 =>
      lcEnd e0 own (lcLoop (fun t e1 => (asgTg C tg t (wipe e1 own)).bind fun _ e2 => (cnd C c e2).bind fun b e3 =>
        if b = true then (srs C s2 e3).bind fun its2 e4 =>
          lcLoop (fun t2 e5 => (asgTg C tg2 t2 (wipe e5 own2)).bind fun _ e6 => (cnd C c2 e6).bind fun b2 e7 =>
            if b2 = true then (ev C x e7).bind fun y e8 => .ok [y] e8 else .ok [] e7) its2 e4
        else .ok [] e3) its e0)
  | .pop x, e => (match gt e x with
    | some (.lst true ts) => (match ts[ts.length - 1]? with
      | some t => .ok t (e.set x (some (.lst true ts.dropLast)))
      | none => .bad)
    | _ => .bad)
  | .lam k xs, e => (match (xs.map (gt e)).mapM id with
    | some ts => if isFs ts then .ok (.clo k ts) e else .bad
    | none => .bad)
  | .never, _ => .bad
def evs (C : Cn) : Es → Env → R (List T)
  | .nil, e => .ok [] e
  | .cons a r, e => (ev C a e).bind fun x e => (evs C r e).bind fun xs e => .ok (x :: xs) e
def evo (C : Cn) : Eo → Env → R (Option Int)
  | .non, e => .ok none e
  | .som a, e => (ev C a e).bind fun x e => (match x with
    | .int i => .ok (some i) e
    | _ => .bad)
def cnd (C : Cn) : Eo → Env → R Bool
  | .non, e => .ok true e
  | .som a, e => (ev C a e).bind fun x e => (match x with
    | .bl b => .ok b e
    | _ => .bad)
def srs (C : Cn) : Sr → Env → R (List T)
  | .seq a, e => (ev C a e).bind fun x e => (match items x with
    | some ts => .ok (frzs ts) e
    | none => .bad)
  | .rg1 a, e => (ev C a e).bind fun x e => (match x with
    | .int j => R.of (rangeT 0 j) e
    | _ => .bad)
  | .rg2 a b, e => (ev C a e).bind fun x e => (ev C b e).bind fun y e => (match x, y with
    | .int i, .int j => R.of (rangeT i j) e
    | _, _ => .bad)
  | .zip a b, e => (ev C a e).bind fun x e => (ev C b e).bind fun y e => (match x, y with
    | .lst _ xs, .lst _ ys => .ok (((frzs xs).zip (frzs ys)).map fun p => .tup [p.1, p.2]) e
    | .tup xs, .tup ys => .ok (((frzs xs).zip (frzs ys)).map fun p => .tup [p.1, p.2]) e
    | _, _ => .bad)
def asgTg (C : Cn) : Tg → T → Env → R Unit
  | .nm i, t, e => setNm C.io i t e
  | .ix x i, t, e => has e x ((ev C i e).bind fun k e => setIx x k t e)
  | .ix2 x i j, t, e => has e x ((ev C i e).bind fun k e => (match pv j e with
    | some l => setIx2 x k (.int l) t e
    | none => .bad))
  | .tp ts, t, e => (match t with
    | .tup us => if us.length = ts.len then asgTgs C ts us e else .bad
    | _ => .bad)
def asgTgs (C : Cn) : Tgs → List T → Env → R Unit
  | .nil, [], e => .ok () e
  | .cons t r, u :: us, e => (asgTg C t u e).bind fun _ e => asgTgs C r us e
  | _, _, _ => .bad
end
def parS (io : Bool) : List Nat → List T → Env → R Unit
  | [], [], e => .ok () e
  | i :: is, t :: ts, e => (setNm io i t e).bind fun _ e => parS io is ts e
  | _, _, _ => .bad
def excN : List Str := ["ChancesmovedError", "TooLarge", "InvalidSpread", "InvalidTable", "InvalidRow", "InvalidWeb", "InvalidPaper", "InvalidText"]
def excStr (c : Nat) : Str := (excN[c]?).getD "ChancesmovedError"
def subC (c h : Nat) : Bool := c == h || h == 0
mutual
def xev (c : Nat) (p : T) : Xe → T
  | .pl => p
  | .nm => .str (excStr c)
  | .str s => .str s
  | .bl b => .bl b
  | .int i => .int i
  | .non => .non
  | .tup xs => .tup (xevs c p xs)
def xevs (c : Nat) (p : T) : Xes → List T
  | .nil => []
  | .cons x r => xev c p x :: xevs c p r
end
def handle (io : Bool) (c : Nat) (p : T) (e : Env) : List Hd → R Fl
  | [] => .exc c p e
  | h :: hs => if subC c h.cls then (match h.slot with
      | none => .ok (.rt (xev c p h.gives)) e
      | some i => if io && i == 0 then .bad else .ok (.rt (xev c p h.gives)) (e.set i none)) else handle io c p e hs
mutual
def ex (C : Cn) : S → Env → R Fl
  | .asg t a, e => (ev C a e).bind fun x e => (asgTg C t x e).bind fun _ e => .ok .nx e
  | .par is es, e => (evs C es e).bind fun ts e => (parS C.io is ts e).bind fun _ e => .ok .nx e
  | .aug i o a, e => has e i ((ev C a e).bind fun y e => (match gt e i with
    | some x => (match iop o x y with
      | some z => (setNm C.io i z e).bind fun _ e => .ok .nx e
      | none => .bad)
    | none => .bad))
  | .augi x i o a, e => has e x ((ev C i e).bind fun k e => (match gt e x with
    | some (.lst w ts) => (match at_ (.lst w ts) k with
      | some (.int u) => (ev C a e).bind fun y e => (match iop o (.int u) y with
        | some z => (setIx x k z e).bind fun _ e => .ok .nx e
        | none => .bad)
      | _ => .bad)
    | _ => .bad))
  | .app x a, e => hasL e x ((ev C a e).bind fun y e => (match gt e x with
    | some (.lst true ts) => if ts.length < SZ then .ok .nx (e.set x (some (.lst true (ts ++ [y])))) else .bad
    | _ => .bad))
  | .insr x a b, e => hasL e x ((ev C a e).bind fun k e => (ev C b e).bind fun y e => (match gt e x, k with
    | some (.lst true ts), .int i => if 0 ≤ i ∧ i ≤ (ts.length : Int) ∧ ts.length < SZ then .ok .nx (e.set x (some (.lst true (ts.insertIdx i.toNat y)))) else .bad
    | _, _ => .bad))
  | .ext x a, e => hasL e x ((ev C a e).bind fun y e => (match gt e x, y with
    | some (.lst true ts), .lst _ us => if ts.length + us.length ≤ SZ then .ok .nx (e.set x (some (.lst true (ts ++ us)))) else .bad
    | _, _ => .bad))
  | .exp a, e => (ev C a e).bind fun _ e => .ok .nx e
  | .ife c a b, e => (ev C c e).bind fun x e => (match x with
    | .bl true => exs C a e
    | .bl false => exs C b e
    | _ => .bad)
  | .whl c b, e => whlLoop (ev C c) (exs C b) FU e
  | .for t s b, e => (srs C s e).bind fun its e => forLoop (fun x e => (asgTg C t x e).bind fun _ e => exs C b e) its e
  | .ret a, e => (ev C a e).bind fun x e => .ok (.rt x) e
  | .retN, e => .ok (.rt .non) e
  | .brk, e => .ok .bk e
  | .cont, e => .ok .ct e
  | .pass, e => .ok .nx e
  | .raise c a, e => (ev C a e).bind fun x e => .exc c (frz x) e
  | .try b hs, e => (match exs C b e with
    | .exc c p e1 => handle C.io c p e1 hs
    | .ok f e1 => .ok f e1
    | .bad => .bad)
  | .never, _ => .bad
def exs (C : Cn) : Ss → Env → R Fl
  | .nil, e => .ok .nx e
  | .cons s r, e => (ex C s e).bind fun f e => match f with
    | .nx => exs C r e
    | .rt t => .ok (.rt t) e
    | .bk => .ok .bk e
    | .ct => .ok .ct e
end
/-- a def's run: n its slots -/
def startE (n : Nat) (ts : List T) : Env := ts.map some ++ List.replicate (n - ts.length) none
def run (C : Cn) (n : Nat) (b : Ss) (ts : List T) : Cr := match exs C b (startE n ts) with
  | .ok f e => (match f with
    | .rt t => (if C.io = true then (match gt e 0 with
      | some i => .ok t i
      | none => .bad) else .ok t .non)
    | .nx => (if C.io = true then (match gt e 0 with
      | some i => .ok .non i
      | none => .bad) else .ok .non .non)
    | _ => .bad)
  | .exc c p e => (if C.io = true then (match gt e 0 with
      | some i => .exc c p i
      | none => .bad) else .exc c p .non)
  | .bad => .bad
end Iv
set_option Elab.async false
set_option linter.all false
set_option maxRecDepth 100000
namespace Iv
open PySem PySem.Spec PyProof.Rows L2

/-! ### how a tree lies in the abstract heap -/
abbrev ZP := Addr → Prop
/-- where the classes stand; what is written -/
structure Pr where
  cl : Nat → Addr
  K : PySem.W.Frag
mutual
/-- Cl: the classes; Z: what is frozen; O: what the tree owns -/
def Rep (Cl : Pr) (H : Hp) (Z : ZP) : T → V → List Addr → Prop
  | .non, v, O => v = .non ∧ O = []
  | .bl b, v, O => v = .bl b ∧ O = []
  | .int i, v, O => v = .int i ∧ O = []
  | .str s, v, O => v = .str s ∧ O = []
  | .tup ts, v, O => ∃ a vs, v = .ref a ∧ H a = some (.tup vs) ∧ Reps Cl H Z ts vs O
  | .lst false ts, v, O => ∃ a vs, v = .ref a ∧ Z a ∧ Rd H a (.lst vs) ∧ Reps Cl H Z ts vs [] ∧ O = []
  | .lst true ts, v, O => ∃ a vs O', v = .ref a ∧ H a = some (.lst vs) ∧ Reps Cl H Z ts vs O' ∧ O = a :: O'
  | .obj c t, v, O => ∃ a dx u, v = .ref a ∧ Z a ∧ H a = some (.ins (Cl.cl c) dx [("pairs", u)]) ∧ Rep Cl H Z t u [] ∧ O = []
  | .dic _ _ _, _, _ => False
  | .clo _ _, _, _ => False
  | .scr ns, v, O => ∃ a, v = .ref a ∧ SqL Cl.K H a (ns.map V.int) ∧ (Z a ∨ ∀ H', SqL Cl.K H' a (ns.map V.int)) ∧ O = []
def Reps (Cl : Pr) (H : Hp) (Z : ZP) : List T → List V → List Addr → Prop
  | [], vs, O => vs = [] ∧ O = []
  | t :: ts, vs, O => ∃ v r O1 O2, vs = v :: r ∧ Rep Cl H Z t v O1 ∧ Reps Cl H Z ts r O2 ∧ O = O1 ++ O2
end

variable {Cl : Pr} {H H' : Hp} {Z Z' : ZP}
mutual
theorem Rep.nil_of : ∀ (t : T) {v : V} {O : List Addr}, isF t = true → Rep Cl H Z t v O → O = []
  | .non, _, _, _, h => by unfold Rep at h; exact h.2
  | .bl _, _, _, _, h => by unfold Rep at h; exact h.2
  | .int _, _, _, _, h => by unfold Rep at h; exact h.2
  | .str _, _, _, _, h => by unfold Rep at h; exact h.2
  | .tup ts, _, _, f, h => by
    unfold Rep at h; obtain ⟨a, vs, _, _, h⟩ := h
    exact Reps.nil_of ts (by unfold isF at f; exact f) h
  | .lst false ts, _, _, _, h => by unfold Rep at h; obtain ⟨_, _, _, _, _, _, e⟩ := h; exact e
  | .lst true ts, _, _, f, h => by simp [isF] at f
  | .obj _ _, _, _, _, h => by unfold Rep at h; obtain ⟨_, _, _, _, _, _, _, e⟩ := h; exact e
  | .dic _ _ _, _, _, _, h => by unfold Rep at h; exact h.elim
  | .clo _ _, _, _, _, h => by unfold Rep at h; exact h.elim
  | .scr _, _, _, _, h => by unfold Rep at h; obtain ⟨_, _, _, _, e⟩ := h; exact e
theorem Reps.nil_of : ∀ (ts : List T) {vs : List V} {O : List Addr}, isFs ts = true → Reps Cl H Z ts vs O → O = []
  | [], _, _, _, h => by unfold Reps at h; exact h.2
  | t :: ts, _, _, f, h => by
    unfold Reps at h; obtain ⟨v, r, O1, O2, _, h1, h2, e⟩ := h
    unfold isFs at f
    have f' := Bool.and_eq_true_iff.mp f
    rw [e, Rep.nil_of t f'.1 h1, Reps.nil_of ts f'.2 h2]; rfl
end
mutual
theorem isF_frz : ∀ t : T, isF (frz t) = true
  | .non => rfl | .bl _ => rfl | .int _ => rfl | .str _ => rfl | .scr _ => rfl
  | .tup ts => by unfold frz isF; exact isFs_frzs ts
  | .lst _ ts => by unfold frz isF; rw [isFs_frzs ts]; rfl
  | .dic _ ks vs => by unfold frz isF; rw [isFs_frzs vs]; rfl
  | .obj _ t => by unfold frz isF; exact isF_frz t
  | .clo _ ts => by unfold frz isF; exact isFs_frzs ts
theorem isFs_frzs : ∀ ts : List T, isFs (frzs ts) = true
  | [] => rfl
  | t :: ts => by unfold frzs isFs; rw [isF_frz t, isFs_frzs ts]; rfl
end
mutual
theorem frz_of : ∀ t : T, isF t = true → frz t = t
  | .non, _ => rfl | .bl _, _ => rfl | .int _, _ => rfl | .str _, _ => rfl | .scr _, _ => rfl
  | .tup ts, f => by unfold isF at f; unfold frz; rw [frzs_of ts f]
  | .lst o ts, f => by
    unfold isF at f; have f' := Bool.and_eq_true_iff.mp f
    unfold frz; rw [frzs_of ts f'.2]
    cases o with
    | true => simp at f'
    | false => rfl
  | .dic o ks vs, f => by
    unfold isF at f; have f' := Bool.and_eq_true_iff.mp f
    unfold frz; rw [frzs_of vs f'.2]
    cases o with
    | true => simp at f'
    | false => rfl
  | .obj _ t, f => by unfold isF at f; unfold frz; rw [frz_of t f]
  | .clo _ ts, f => by unfold isF at f; unfold frz; rw [frzs_of ts f]
theorem frzs_of : ∀ ts : List T, isFs ts = true → frzs ts = ts
  | [], _ => rfl
  | t :: ts, f => by
    unfold isFs at f; have f' := Bool.and_eq_true_iff.mp f
    unfold frzs; rw [frz_of t f'.1, frzs_of ts f'.2]
end
mutual
/-- freezing -/
theorem Rep.frz : ∀ (t : T) {v : V} {O : List Addr}, Rep Cl H Z t v O → (∀ a, Z a → Z' a) → (∀ a ∈ O, Z' a) → Rep Cl H Z' (frz t) v []
  | .non, _, _, h, _, _ => by unfold Rep at h; unfold Iv.frz Rep; exact ⟨h.1, rfl⟩
  | .bl _, _, _, h, _, _ => by unfold Rep at h; unfold Iv.frz Rep; exact ⟨h.1, rfl⟩
  | .int _, _, _, h, _, _ => by unfold Rep at h; unfold Iv.frz Rep; exact ⟨h.1, rfl⟩
  | .str _, _, _, h, _, _ => by unfold Rep at h; unfold Iv.frz Rep; exact ⟨h.1, rfl⟩
  | .tup ts, _, _, h, z, zo => by
    unfold Rep at h; obtain ⟨a, vs, e, ha, h⟩ := h
    unfold Iv.frz Rep; exact ⟨a, vs, e, ha, Reps.frz ts h z zo⟩
  | .lst false ts, _, _, h, z, zo => by
    unfold Rep at h; obtain ⟨a, vs, e, za, ha, h, e2⟩ := h
    unfold Iv.frz Rep; exact ⟨a, vs, e, z a za, ha, Reps.frz ts h z (by simp), rfl⟩
  | .lst true ts, _, _, h, z, zo => by
    unfold Rep at h; obtain ⟨a, vs, O', e, ha, h, e2⟩ := h
    subst e2
    unfold Iv.frz Rep
    exact ⟨a, vs, e, zo a List.mem_cons_self, .inl ha, Reps.frz ts h z (fun b hb => zo b (List.mem_cons_of_mem _ hb)), rfl⟩
  | .obj c t, _, _, h, z, zo => by
    unfold Rep at h; obtain ⟨a, dx, u, e, za, ha, h, e2⟩ := h
    unfold Iv.frz Rep; exact ⟨a, dx, u, e, z a za, ha, Rep.frz t h z (by simp), rfl⟩
  | .dic _ _ _, _, _, h, _, _ => by unfold Rep at h; exact h.elim
  | .clo _ _, _, _, h, _, _ => by unfold Rep at h; exact h.elim
  | .scr _, _, _, h, z, _ => by
    unfold Rep at h; unfold Iv.frz Rep
    obtain ⟨a, e, hs, hz, _⟩ := h
    exact ⟨a, e, hs, hz.imp_left (z a), rfl⟩
theorem Reps.frz : ∀ (ts : List T) {vs : List V} {O : List Addr}, Reps Cl H Z ts vs O → (∀ a, Z a → Z' a) → (∀ a ∈ O, Z' a) → Reps Cl H Z' (frzs ts) vs []
  | [], _, _, h, _, _ => by unfold Reps at h; unfold Iv.frzs Reps; exact ⟨h.1, rfl⟩
  | t :: ts, _, _, h, z, zo => by
    unfold Reps at h; obtain ⟨v, r, O1, O2, e, h1, h2, e2⟩ := h
    subst e2
    unfold Iv.frzs Reps
    exact ⟨v, r, [], [], e, Rep.frz t h1 z (fun a ha => zo a (List.mem_append_left _ ha)), Reps.frz ts h2 z (fun a ha => zo a (List.mem_append_right _ ha)), rfl⟩
end
/-- what a step keeps -/
structure Keep (O : List Addr) (H : Hp) (Z : ZP) (H' : Hp) (Z' : ZP) : Prop where
  tup : ∀ a vs, H a = some (.tup vs) → H' a = some (.tup vs)
  zk : ∀ a, Z a → H' a = H a
  zz : ∀ a, Z a → Z' a
  own : ∀ a ∈ O, H' a = H a
theorem Keep.sub {O O2 : List Addr} (k : Keep O H Z H' Z') (h : ∀ a ∈ O2, a ∈ O) : Keep O2 H Z H' Z' := ⟨k.tup, k.zk, k.zz, fun a ha => k.own a (h a ha)⟩
mutual
theorem Rep.keep : ∀ (t : T) {v : V} {O : List Addr}, Rep Cl H Z t v O → Keep O H Z H' Z' → Rep Cl H' Z' t v O
  | .non, _, _, h, _ => by unfold Rep at h ⊢; exact h
  | .bl _, _, _, h, _ => by unfold Rep at h ⊢; exact h
  | .int _, _, _, h, _ => by unfold Rep at h ⊢; exact h
  | .str _, _, _, h, _ => by unfold Rep at h ⊢; exact h
  | .tup ts, _, _, h, k => by
    unfold Rep at h ⊢; obtain ⟨a, vs, e, ha, h⟩ := h
    exact ⟨a, vs, e, k.tup a vs ha, Reps.keep ts h k⟩
  | .lst false ts, _, _, h, k => by
    unfold Rep at h ⊢; obtain ⟨a, vs, e, za, ha, h, e2⟩ := h
    refine ⟨a, vs, e, k.zz a za, ?_, Reps.keep ts h (k.sub (by simp)), e2⟩
    unfold Rd at ha ⊢
    rw [k.zk a za]; exact ha
  | .lst true ts, _, _, h, k => by
    unfold Rep at h ⊢; obtain ⟨a, vs, O', e, ha, h, e2⟩ := h
    subst e2
    exact ⟨a, vs, O', e, (k.own a List.mem_cons_self).trans ha, Reps.keep ts h (k.sub fun b hb => List.mem_cons_of_mem _ hb), rfl⟩
  | .obj c t, _, _, h, k => by
    unfold Rep at h ⊢; obtain ⟨a, dx, u, e, za, ha, h, e2⟩ := h
    exact ⟨a, dx, u, e, k.zz a za, (k.zk a za).trans ha, Rep.keep t h (k.sub (by simp)), e2⟩
  | .dic _ _ _, _, _, h, _ => by unfold Rep at h; exact h.elim
  | .clo _ _, _, _, h, _ => by unfold Rep at h; exact h.elim
  | .scr ns, _, _, h, k => by
    unfold Rep at h ⊢
    obtain ⟨a, e, hs, hz, e2⟩ := h
    refine ⟨a, e, ?_, hz.imp_left (k.zz a), e2⟩
    rcases hz with hz | hz
    · unfold SqL Rd at hs ⊢
      rw [k.zk a hz]; exact hs
    · exact hz _
theorem Reps.keep : ∀ (ts : List T) {vs : List V} {O : List Addr}, Reps Cl H Z ts vs O → Keep O H Z H' Z' → Reps Cl H' Z' ts vs O
  | [], _, _, h, _ => by unfold Reps at h ⊢; exact h
  | t :: ts, _, _, h, k => by
    unfold Reps at h ⊢; obtain ⟨v, r, O1, O2, e, h1, h2, e2⟩ := h
    subst e2
    exact ⟨v, r, O1, O2, e, Rep.keep t h1 (k.sub fun a ha => List.mem_append_left _ ha), Reps.keep ts h2 (k.sub fun a ha => List.mem_append_right _ ha), rfl⟩
end
theorem Reps.len : ∀ {ts : List T} {vs : List V} {O : List Addr}, Reps Cl H Z ts vs O → ts.length = vs.length
  | [], _, _, h => by unfold Reps at h; rw [h.1]; rfl
  | t :: ts, _, _, h => by
    unfold Reps at h; obtain ⟨v, r, O1, O2, e, h1, h2, e2⟩ := h
    rw [e, List.length_cons, List.length_cons, Reps.len h2]
theorem Reps.app : ∀ {ts us : List T} {vs ws : List V} {O O2 : List Addr}, Reps Cl H Z ts vs O → Reps Cl H Z us ws O2 → Reps Cl H Z (ts ++ us) (vs ++ ws) (O ++ O2)
  | [], _, _, _, _, _, h, h2 => by unfold Reps at h; rw [h.1, h.2]; exact h2
  | t :: ts, us, _, ws, _, O2, h, h2 => by
    unfold Reps at h; obtain ⟨v, r, Oa, Ob, e, h1, h3, e2⟩ := h
    subst e e2
    show Reps Cl H Z (t :: (ts ++ us)) (v :: (r ++ ws)) _
    unfold Reps
    exact ⟨v, r ++ ws, Oa, Ob ++ O2, rfl, h1, Reps.app h3 h2, by rw [List.append_assoc]⟩
theorem Reps.one {t : T} {v : V} {O : List Addr} (h : Rep Cl H Z t v O) : Reps Cl H Z [t] [v] O := by
  unfold Reps; exact ⟨v, [], O, [], rfl, h, by unfold Reps; exact ⟨rfl, rfl⟩, by simp⟩
theorem Reps.nil : Reps Cl H Z [] [] [] := by unfold Reps; exact ⟨rfl, rfl⟩
/-- the i-th -/
theorem Reps.at_ : ∀ {ts : List T} {vs : List V} {O : List Addr} {i : Nat} {t : T}, Reps Cl H Z ts vs O → ts[i]? = some t →
    ∃ v O1 Oi O2, vs[i]? = some v ∧ Rep Cl H Z t v Oi ∧ O = O1 ++ Oi ++ O2 ∧ Reps Cl H Z (ts.take i) (vs.take i) O1 ∧ Reps Cl H Z (ts.drop (i + 1)) (vs.drop (i + 1)) O2
  | [], _, _, _, _, _, h => by simp at h
  | t :: ts, _, _, 0, u, h, e => by
    unfold Reps at h; obtain ⟨v, r, Oa, Ob, e1, h1, h3, e2⟩ := h
    subst e1 e2
    have e : t = u := Option.some.inj e
    subst e
    exact ⟨v, [], Oa, Ob, rfl, h1, by simp, Reps.nil, h3⟩
  | t :: ts, _, _, i + 1, u, h, e => by
    unfold Reps at h; obtain ⟨v, r, Oa, Ob, e1, h1, h3, e2⟩ := h
    subst e1 e2
    obtain ⟨w, O1, Oi, O2, q1, q2, q3, q4, q5⟩ := Reps.at_ (i := i) (t := u) h3 (by simpa using e)
    refine ⟨w, Oa ++ O1, Oi, O2, by simpa using q1, q2, by rw [q3]; simp, ?_, by simpa using q5⟩
    show Reps Cl H Z (t :: ts.take i) (v :: r.take i) _
    unfold Reps
    exact ⟨v, r.take i, Oa, O1, rfl, h1, q4, rfl⟩
theorem Reps.set {ts : List T} {vs : List V} {O Ou : List Addr} {i : Nat} {u : T} {w : V} (h : Reps Cl H Z ts vs O) (hi : i < ts.length) (hu : Rep Cl H Z u w Ou) :
    ∃ O1 Oi O2, O = O1 ++ Oi ++ O2 ∧ Reps Cl H Z (ts.set i u) (vs.set i w) (O1 ++ Ou ++ O2) := by
  obtain ⟨v, O1, Oi, O2, q1, q2, q3, q4, q5⟩ := Reps.at_ (i := i) (t := ts[i]) h (by simp [hi])
  refine ⟨O1, Oi, O2, q3, ?_⟩
  have hv : i < vs.length := by rw [← h.len]; exact hi
  rw [List.set_eq_take_append_cons_drop, if_pos hi, List.set_eq_take_append_cons_drop, if_pos hv, List.append_assoc]
  refine q4.app ?_
  unfold Reps
  exact ⟨w, _, Ou, O2, rfl, hu, q5, rfl⟩
theorem Reps.split {ts us : List T} {vs : List V} {O : List Addr} (h : Reps Cl H Z (ts ++ us) vs O) : ∃ ws xs O1 O2, vs = ws ++ xs ∧ O = O1 ++ O2 ∧ Reps Cl H Z ts ws O1 ∧ Reps Cl H Z us xs O2 := by
  induction ts generalizing vs O with
  | nil => exact ⟨[], vs, [], O, rfl, rfl, Reps.nil, h⟩
  | cons t ts ih =>
    have h : Reps Cl H Z (t :: (ts ++ us)) vs O := h
    unfold Reps at h; obtain ⟨v, r, Oa, Ob, e1, h1, h3, e2⟩ := h
    obtain ⟨ws, xs, O1, O2, q1, q2, q3, q4⟩ := ih h3
    subst e1 e2 q1 q2
    refine ⟨v :: ws, xs, Oa ++ O1, O2, rfl, by simp, ?_, q4⟩
    unfold Reps
    exact ⟨v, ws, Oa, O1, rfl, h1, q3, rfl⟩
/-- frozen ones, in any arrangement -/
theorem Reps.mem {ts : List T} {vs : List V} {O : List Addr} (h : Reps Cl H Z ts vs O) (f : isFs ts = true) {i : Nat} {t : T} {v : V} (e : ts[i]? = some t) (ev : vs[i]? = some v) : Rep Cl H Z t v [] := by
  obtain ⟨w, O1, Oi, O2, q1, q2, q3, _, _⟩ := h.at_ e
  rw [Reps.nil_of ts f h] at q3
  have : Oi = [] := by
    have z := congrArg List.length q3
    simp at z
    exact List.eq_nil_of_length_eq_zero (by omega)
  rw [q1] at ev; cases ev
  rw [this] at q2; exact q2
theorem Reps.of_mem : ∀ {ts : List T} {vs : List V}, ts.length = vs.length → (∀ (i : Nat) (t : T) (v : V), ts[i]? = some t → vs[i]? = some v → Rep Cl H Z t v []) → Reps Cl H Z ts vs []
  | [], [], _, _ => Reps.nil
  | [], _ :: _, e, _ => by simp at e
  | _ :: _, [], e, _ => by simp at e
  | t :: ts, v :: vs, e, h => by
    unfold Reps
    exact ⟨v, vs, [], [], rfl, h 0 t v rfl rfl, Reps.of_mem (by simpa using e) fun i t v h1 h2 => h (i + 1) t v (by simpa using h1) (by simpa using h2), rfl⟩
theorem isFs_mem : ∀ {ts : List T}, isFs ts = true ↔ ∀ t ∈ ts, isF t = true
  | [] => by simp [isFs]
  | t :: ts => by
    unfold isFs
    rw [Bool.and_eq_true, isFs_mem (ts := ts)]
    simp

/-! ### slots -/
def EnvR (Cl : Pr) (H : Hp) (Z : ZP) : Env → L2.St → List Addr → Prop
  | [], σ, O => σ = [] ∧ O = []
  | none :: e, σ, O => ∃ x r, σ = x :: r ∧ EnvR Cl H Z e r O
  | some t :: e, σ, O => ∃ v r O1 O2, σ = some v :: r ∧ Rep Cl H Z t v O1 ∧ EnvR Cl H Z e r O2 ∧ O = O1 ++ O2
theorem EnvR.len : ∀ {e : Env} {σ : L2.St} {O : List Addr}, EnvR Cl H Z e σ O → e.length = σ.length
  | [], _, _, h => by unfold EnvR at h; rw [h.1]; rfl
  | none :: e, _, _, h => by unfold EnvR at h; obtain ⟨x, r, e1, h⟩ := h; rw [e1]; simp [EnvR.len h]
  | some t :: e, _, _, h => by unfold EnvR at h; obtain ⟨v, r, O1, O2, e1, _, h, _⟩ := h; rw [e1]; simp [EnvR.len h]
theorem EnvR.keep : ∀ {e : Env} {σ : L2.St} {O : List Addr}, EnvR Cl H Z e σ O → Keep O H Z H' Z' → EnvR Cl H' Z' e σ O
  | [], _, _, h, _ => by unfold EnvR at h ⊢; exact h
  | none :: e, _, _, h, k => by unfold EnvR at h ⊢; obtain ⟨x, r, e1, h⟩ := h; exact ⟨x, r, e1, EnvR.keep h k⟩
  | some t :: e, _, _, h, k => by
    unfold EnvR at h ⊢; obtain ⟨v, r, O1, O2, e1, h1, h, e2⟩ := h
    subst e2
    exact ⟨v, r, O1, O2, e1, Rep.keep t h1 (k.sub fun a ha => List.mem_append_left _ ha), EnvR.keep h (k.sub fun a ha => List.mem_append_right _ ha), rfl⟩
theorem gt_cons_zero {o : Option T} {e : Env} : gt (o :: e) 0 = o := by unfold gt; cases o <;> rfl
theorem gt_cons_succ {o : Option T} {e : Env} {i : Nat} : gt (o :: e) (i + 1) = gt e i := by unfold gt; rfl
/-- the slot i; and the slot i with something else -/
theorem EnvR.at_ : ∀ {e : Env} {σ : L2.St} {O : List Addr} {i : Nat} {t : T}, EnvR Cl H Z e σ O → gt e i = some t →
    ∃ v O1 Oi O2, σ[i]? = some (some v) ∧ Rep Cl H Z t v Oi ∧ O = O1 ++ Oi ++ O2 ∧ (∀ (u : T) (w : V) (Ou : List Addr), Rep Cl H Z u w Ou → EnvR Cl H Z (e.set i (some u)) (σ.set i (some w)) (O1 ++ Ou ++ O2)) ∧
      (∀ (u : T) (Ou : List Addr), Rep Cl H Z u v Ou → EnvR Cl H Z (e.set i (some u)) σ (O1 ++ Ou ++ O2)) ∧ EnvR Cl H Z (e.set i none) σ (O1 ++ O2)
  | [], _, _, _, _, _, h => by simp [gt] at h
  | none :: e, _, _, 0, t, h, q => by rw [gt_cons_zero] at q; cases q
  | some s :: e, _, _, 0, t, h, q => by
    unfold EnvR at h; obtain ⟨v, r, O1, O2, e1, h1, h, e2⟩ := h
    rw [gt_cons_zero] at q; cases q
    subst e1 e2
    refine ⟨v, [], O1, O2, rfl, h1, by simp, fun u w Ou hu => ?_, fun u Ou hu => ?_, ?_⟩
    · show EnvR Cl H Z (some u :: e) (some w :: r) _
      unfold EnvR; exact ⟨w, r, Ou, O2, rfl, hu, h, by simp⟩
    · show EnvR Cl H Z (some u :: e) (some v :: r) _
      unfold EnvR; exact ⟨v, r, Ou, O2, rfl, hu, h, by simp⟩
    · show EnvR Cl H Z (none :: e) (some v :: r) _
      unfold EnvR; exact ⟨_, r, rfl, by simpa using h⟩
  | none :: e, _, _, i + 1, t, h, q => by
    unfold EnvR at h; obtain ⟨x, r, e1, h⟩ := h
    rw [gt_cons_succ] at q
    obtain ⟨v, O1, Oi, O2, q1, q2, q3, q4, q5, q6⟩ := EnvR.at_ h q
    subst e1
    refine ⟨v, O1, Oi, O2, by simpa using q1, q2, q3, fun u w Ou hu => ?_, fun u Ou hu => ?_, ?_⟩
    · show EnvR Cl H Z (none :: e.set i (some u)) (x :: r.set i (some w)) _
      unfold EnvR; exact ⟨x, _, rfl, q4 u w Ou hu⟩
    · show EnvR Cl H Z (none :: e.set i (some u)) (x :: r) _
      unfold EnvR; exact ⟨x, _, rfl, q5 u Ou hu⟩
    · show EnvR Cl H Z (none :: e.set i none) (x :: r) _
      unfold EnvR; exact ⟨x, _, rfl, q6⟩
  | some s :: e, _, _, i + 1, t, h, q => by
    unfold EnvR at h; obtain ⟨x, r, Oa, Ob, e1, h1, h, e2⟩ := h
    rw [gt_cons_succ] at q
    obtain ⟨v, O1, Oi, O2, q1, q2, q3, q4, q5, q6⟩ := EnvR.at_ h q
    subst e1 e2
    refine ⟨v, Oa ++ O1, Oi, O2, by simpa using q1, q2, by rw [q3]; simp, fun u w Ou hu => ?_, fun u Ou hu => ?_, ?_⟩
    · show EnvR Cl H Z (some s :: e.set i (some u)) (some x :: r.set i (some w)) _
      unfold EnvR; exact ⟨x, _, Oa, _, rfl, h1, q4 u w Ou hu, by simp⟩
    · show EnvR Cl H Z (some s :: e.set i (some u)) (some x :: r) _
      unfold EnvR; exact ⟨x, _, Oa, _, rfl, h1, q5 u Ou hu, by simp⟩
    · show EnvR Cl H Z (some s :: e.set i none) (some x :: r) _
      unfold EnvR; exact ⟨x, _, Oa, _, rfl, h1, q6, by simp⟩
/-- a slot is stored, whatever it held -/
theorem EnvR.put : ∀ {e : Env} {σ : L2.St} {O : List Addr} {i : Nat}, EnvR Cl H Z e σ O → i < e.length →
    ∃ O1 Oi O2, O = O1 ++ Oi ++ O2 ∧ (∀ (u : T) (w : V) (Ou : List Addr), Rep Cl H Z u w Ou → EnvR Cl H Z (e.set i (some u)) (σ.set i (some w)) (O1 ++ Ou ++ O2)) ∧ (∀ x, EnvR Cl H Z (e.set i none) (σ.set i x) (O1 ++ O2)) ∧ EnvR Cl H Z (e.set i none) σ (O1 ++ O2)
  | [], _, _, _, _, h => by simp at h
  | none :: e, _, _, 0, h, _ => by
    unfold EnvR at h; obtain ⟨x, r, e1, h⟩ := h
    subst e1
    refine ⟨[], [], _, by simp; rfl, fun u w Ou hu => ?_, fun y => ?_, ?_⟩
    · show EnvR Cl H Z (some u :: e) (some w :: r) _
      unfold EnvR; exact ⟨w, r, Ou, _, rfl, hu, h, by simp⟩
    · show EnvR Cl H Z (none :: e) (y :: r) _
      unfold EnvR; exact ⟨y, r, rfl, by simpa using h⟩
    · show EnvR Cl H Z (none :: e) (x :: r) _
      unfold EnvR; exact ⟨x, r, rfl, by simpa using h⟩
  | some s :: e, _, _, 0, h, _ => by
    unfold EnvR at h; obtain ⟨v, r, O1, O2, e1, h1, h, e2⟩ := h
    subst e1 e2
    refine ⟨[], O1, O2, by simp, fun u w Ou hu => ?_, fun y => ?_, ?_⟩
    · show EnvR Cl H Z (some u :: e) (some w :: r) _
      unfold EnvR; exact ⟨w, r, Ou, _, rfl, hu, h, by simp⟩
    · show EnvR Cl H Z (none :: e) (y :: r) _
      unfold EnvR; exact ⟨y, r, rfl, by simpa using h⟩
    · show EnvR Cl H Z (none :: e) (some v :: r) _
      unfold EnvR; exact ⟨_, r, rfl, by simpa using h⟩
  | none :: e, _, _, i + 1, h, l => by
    unfold EnvR at h; obtain ⟨x, r, e1, h⟩ := h
    obtain ⟨O1, Oi, O2, q1, q2, q3, q4⟩ := EnvR.put (i := i) h (by simpa using l)
    subst e1
    refine ⟨O1, Oi, O2, q1, fun u w Ou hu => ?_, fun y => ?_, ?_⟩
    · show EnvR Cl H Z (none :: e.set i (some u)) (x :: r.set i (some w)) _
      unfold EnvR; exact ⟨x, _, rfl, q2 u w Ou hu⟩
    · show EnvR Cl H Z (none :: e.set i none) (x :: r.set i y) _
      unfold EnvR; exact ⟨x, _, rfl, q3 y⟩
    · show EnvR Cl H Z (none :: e.set i none) (x :: r) _
      unfold EnvR; exact ⟨x, _, rfl, q4⟩
  | some s :: e, _, _, i + 1, h, l => by
    unfold EnvR at h; obtain ⟨x, r, Oa, Ob, e1, h1, h, e2⟩ := h
    obtain ⟨O1, Oi, O2, q1, q2, q3, q4⟩ := EnvR.put (i := i) h (by simpa using l)
    subst e1 e2
    refine ⟨Oa ++ O1, Oi, O2, by rw [q1]; simp, fun u w Ou hu => ?_, fun y => ?_, ?_⟩
    · show EnvR Cl H Z (some s :: e.set i (some u)) (some x :: r.set i (some w)) _
      unfold EnvR; exact ⟨x, _, Oa, _, rfl, h1, q2 u w Ou hu, by simp⟩
    · show EnvR Cl H Z (some s :: e.set i none) (some x :: r.set i y) _
      unfold EnvR; exact ⟨x, _, Oa, _, rfl, h1, q3 y, by simp⟩
    · show EnvR Cl H Z (some s :: e.set i none) (some x :: r) _
      unfold EnvR; exact ⟨x, _, Oa, _, rfl, h1, q4, by simp⟩
/-! ### steps -/
structure Good (H : Hp) (Z : ZP) (O : List Addr) : Prop where
  nd : O.Nodup
  nz : ∀ a ∈ O, ¬ Z a
  live : ∀ a ∈ O, Mut (H a)
  zl : ∀ a, Z a → H a ≠ none
theorem Good.sub {O O' : List Addr} (g : Good H Z O) (nd : O'.Nodup) (h : ∀ a ∈ O', a ∈ O) : Good H Z O' := ⟨nd, fun a ha => g.nz a (h a ha), fun a ha => g.live a (h a ha), g.zl⟩
theorem mut_ne {o : Option HO} (m : Mut o) : o ≠ none := by
  rintro rfl; exact m
theorem mut_noTup {H : Hp} {a : Addr} {vs : List V} (m : Mut (H a)) : H a ≠ some (.tup vs) := by
  intro e; rw [e] at m; exact m
/-- from (H, Z), owning O, to (H', Z'), with U in hand and O' in the slots -/
structure Step (O : List Addr) (H : Hp) (Z : ZP) (H' : Hp) (Z' : ZP) (U O' : List Addr) : Prop where
  keep : ∀ a, H a ≠ none → a ∉ O → H' a = H a
  there : ∀ a, H a ≠ none → H' a ≠ none
  zz : ∀ a, Z a → Z' a
  zn : ∀ a, Z' a → H a ≠ none → a ∉ O → Z a
  good : Good H' Z' (U ++ O')
  sub : ∀ a ∈ U ++ O', a ∈ O ∨ H a = none
variable {O O1 O2 U V1 : List Addr} {H1 H2 : Hp} {Z1 Z2 : ZP}
theorem Step.refl (g : Good H Z O) : Step O H Z H Z [] O := ⟨fun _ _ _ => rfl, fun _ h => h, fun _ h => h, fun _ h _ _ => h, by simpa using g, fun a ha => .inl (by simpa using ha)⟩
/-- what is kept of things that O does not own -/
theorem Step.keeps {T1 : List Addr} (s : Step O H Z H1 Z1 U O1) (g : Good H Z O) (ht : ∀ a ∈ T1, H a ≠ none ∧ a ∉ O) : Keep T1 H Z H1 Z1 where
  tup := fun a vs e => by
    rw [s.keep a (by rw [e]; simp) (fun hm => mut_noTup (g.live a hm) e)]; exact e
  zk := fun a z => s.keep a (g.zl a z) fun hm => g.nz a hm z
  zz := s.zz
  own := fun a ha => s.keep a (ht a ha).1 (ht a ha).2
theorem nodup_app {α : Type} {a b : List α} : (a ++ b).Nodup ↔ a.Nodup ∧ b.Nodup ∧ ∀ x ∈ a, x ∉ b := by
  rw [List.nodup_append]
  constructor
  · rintro ⟨h1, h2, h3⟩; exact ⟨h1, h2, fun x hx hb => h3 x hx x hb rfl⟩
  · rintro ⟨h1, h2, h3⟩; exact ⟨h1, h2, fun x hx y hy e => h3 x hx (e ▸ hy)⟩
theorem Step.goodO (s : Step O H Z H1 Z1 U O1) : Good H1 Z1 O1 := s.good.sub (nodup_app.mp s.good.nd).2.1 fun a ha => List.mem_append_right _ ha
theorem Step.handKeep (s : Step O H Z H1 Z1 U O1) (s2 : Step O1 H1 Z1 H2 Z2 V1 O2) : Keep U H1 Z1 H2 Z2 :=
  s2.keeps s.goodO fun a ha => ⟨(mut_ne (s.good.live a (List.mem_append_left _ ha))), (nodup_app.mp s.good.nd).2.2 a ha⟩
theorem Step.trans (s : Step O H Z H1 Z1 U O1) (s2 : Step O1 H1 Z1 H2 Z2 V1 O2) : Step O H Z H2 Z2 (U ++ V1) O2 := by
  have nu := nodup_app.mp s.good.nd
  have hin : ∀ a ∈ O1, H a ≠ none → a ∈ O := fun a ha hn => (s.sub a (List.mem_append_right _ ha)).elim id fun e => absurd e hn
  have hfr : ∀ a ∈ U, H2 a = H1 a := fun a ha => s2.keep a (mut_ne (s.good.live a (List.mem_append_left _ ha))) (nu.2.2 a ha)
  refine ⟨fun a hn ho => ?_, fun a hn => s2.there a (s.there a hn), fun a z => s2.zz a (s.zz a z), fun a z hn ho => ?_, ⟨?_, fun a ha => ?_, fun a ha => ?_, s2.good.zl⟩, fun a ha => ?_⟩
  · rw [s2.keep a (s.there a hn) fun hm => ho (hin a hm hn)]; exact s.keep a hn ho
  · exact s.zn a (s2.zn a z (s.there a hn) fun hm => ho (hin a hm hn)) hn ho
  · rw [List.append_assoc]
    refine nodup_app.mpr ⟨nu.1, s2.good.nd, fun a ha hb => ?_⟩
    rcases s2.sub a hb with h | h
    · exact nu.2.2 a ha h
    · exact (mut_ne (s.good.live a (List.mem_append_left _ ha))) h
  · rw [List.append_assoc] at ha
    rcases List.mem_append.mp ha with ha | ha
    · exact fun z => s.good.nz a (List.mem_append_left _ ha) (s2.zn a z (mut_ne (s.good.live a (List.mem_append_left _ ha))) (nu.2.2 a ha))
    · exact s2.good.nz a ha
  · rw [List.append_assoc] at ha
    rcases List.mem_append.mp ha with ha | ha
    · rw [hfr a ha]; exact s.good.live a (List.mem_append_left _ ha)
    · exact s2.good.live a ha
  · rw [List.append_assoc] at ha
    rcases List.mem_append.mp ha with ha | ha
    · exact s.sub a (List.mem_append_left _ ha)
    · rcases s2.sub a ha with h | h
      · exact s.sub a (List.mem_append_right _ h)
      · refine .inr ?_
        cases q : H a with
        | none => rfl
        | some o => exact absurd h (s.there a (by rw [q]; simp))
/-- less in hand -/
theorem Step.less {U' O' : List Addr} (s : Step O H Z H1 Z1 U O1) (nd : (U' ++ O').Nodup) (h : ∀ a ∈ U' ++ O', a ∈ U ++ O1) : Step O H Z H1 Z1 U' O' :=
  ⟨s.keep, s.there, s.zz, s.zn, s.good.sub nd h, fun a ha => s.sub a (h a ha)⟩
theorem Step.drop (s : Step O H Z H1 Z1 U O1) : Step O H Z H1 Z1 [] O1 := s.less (by simpa using (nodup_app.mp s.good.nd).2.1) fun a ha => by simpa using .inr ha
theorem Step.frozen (s : Step O H Z H1 Z1 U O1) (h : U = []) : Step O H Z H1 Z1 [] O1 := by subst h; exact s
/-- a new object that nobody owns: a tuple -/
theorem Step.new (s : Step O H Z H1 Z1 U O1) {p : Addr} {o : HO} (hp : H1 p = none) : Step O H Z (upd H1 p o) Z1 U O1 := by
  have ne : ∀ a, H1 a ≠ none → a ≠ p := fun a h e => h (e ▸ hp)
  refine ⟨fun a hn ho => ?_, fun a hn => ?_, s.zz, s.zn, ⟨s.good.nd, s.good.nz, fun a ha => ?_, fun a z => ?_⟩, s.sub⟩
  · rw [upd_ne (ne a (s.there a hn))]; exact s.keep a hn ho
  · rw [upd_ne (ne a (s.there a hn))]; exact s.there a hn
  · rw [upd_ne (ne a (mut_ne (s.good.live a ha)))]; exact s.good.live a ha
  · rw [upd_ne (ne a (s.good.zl a z))]; exact s.good.zl a z
/-- a new object in hand: a list -/
theorem Step.own (s : Step O H Z H1 Z1 U O1) {p : Addr} {o : HO} (hp : H1 p = none) (m : Mut (some o)) : Step O H Z (upd H1 p o) Z1 (p :: U) O1 := by
  have s' := s.new (o := o) hp
  have hnp : ∀ a ∈ U ++ O1, a ≠ p := fun a ha e => (mut_ne (s.good.live a ha)) (e ▸ hp)
  have hz : ¬ Z1 p := fun z => s.good.zl p z hp
  refine ⟨s'.keep, s'.there, s'.zz, s'.zn, ⟨?_, fun a ha => ?_, fun a ha => ?_, s'.good.zl⟩, fun a ha => ?_⟩
  · show (p :: (U ++ O1)).Nodup
    exact List.nodup_cons.mpr ⟨fun hm => hnp p hm rfl, s.good.nd⟩
  · rcases List.mem_cons.mp ha with e | ha
    · rw [e]; exact hz
    · exact s'.good.nz a ha
  · rcases List.mem_cons.mp ha with e | ha
    · rw [e, upd_same]; exact m
    · exact s'.good.live a ha
  · rcases List.mem_cons.mp ha with e | ha
    · rw [e]
      refine .inr ?_
      cases q : H p with
      | none => rfl
      | some o => exact absurd hp (s.there p (by rw [q]; simp))
    · exact s'.sub a ha
theorem new_keep {p : Addr} {o : HO} {T1 : List Addr} (g : Good H Z T1) (hp : H p = none) : Keep T1 H Z (upd H p o) Z where
  tup := fun a vs e => by rw [upd_ne (ne_of_none e hp)]; exact e
  zk := fun a z => upd_ne fun e => g.zl a z (e ▸ hp)
  zz := fun _ z => z
  own := fun a ha => upd_ne fun e => (mut_ne (g.live a ha)) (e ▸ hp)
/-- freezing what is in hand -/
def zadd (Z : ZP) (F : List Addr) : ZP := fun a => Z a ∨ a ∈ F
theorem Step.freeze {F : List Addr} (s : Step O H Z H1 Z1 (F ++ U) O1) : Step O H Z H1 (zadd Z1 F) U O1 := by
  have nd := s.good.nd
  rw [List.append_assoc] at nd
  have n1 := nodup_app.mp nd
  refine ⟨s.keep, s.there, fun a z => .inl (s.zz a z), fun a z hn ho => ?_, ⟨n1.2.1, fun a ha z => ?_, fun a ha => s.good.live a ?_, fun a z => ?_⟩, fun a ha => s.sub a ?_⟩
  · rcases z with z | z
    · exact s.zn a z hn ho
    · rcases s.sub a (List.mem_append_left _ (List.mem_append_left _ z)) with h | h
      · exact absurd h ho
      · exact absurd h hn
  · rcases z with z | z
    · exact s.good.nz a (by rw [List.append_assoc]; exact List.mem_append_right _ ha) z
    · exact n1.2.2 a z ha
  · rw [List.append_assoc]; exact List.mem_append_right _ ha
  · rcases z with z | z
    · exact s.good.zl a z
    · exact (mut_ne (s.good.live a (List.mem_append_left _ (List.mem_append_left _ z))))
  · rw [List.append_assoc]; exact List.mem_append_right _ ha
theorem freeze_keep {F T1 : List Addr} : Keep T1 H Z H (zadd Z F) := ⟨fun _ _ e => e, fun _ _ => rfl, fun _ z => .inl z, fun _ _ => rfl⟩
end Iv
set_option Elab.async false
set_option linter.all false
set_option maxRecDepth 100000
namespace Iv
open PySem PySem.Spec PyProof.Rows L2

/-- the classes; how an exception lies -/
structure Par where
  Cl : Pr
  EX : Nat → T → Value → Option Addr → Hp → ZP → Prop

def Den0 {α : Type} (ok : α → Env → Prop) (ex : Nat → T → Env → Prop) : R α → Prop
  | .ok a e => ok a e
  | .exc c p e => ex c p e
  | .bad => False
theorem den_bind {α β : Type} {ok : β → Env → Prop} {ex : Nat → T → Env → Prop} {r : R α} {k : α → Env → R β} : Den0 ok ex (r.bind k) ↔ Den0 (fun a e => Den0 ok ex (k a e)) ex r := by
  cases r <;> exact Iff.rfl
theorem den_imp {α : Type} {ok ok' : α → Env → Prop} {ex ex' : Nat → T → Env → Prop} {r : R α} (h : Den0 ok ex r) (h1 : ∀ a e, ok a e → ok' a e) (h2 : ∀ c p e, ex c p e → ex' c p e) : Den0 ok' ex' r := by
  cases r with
  | ok a e => exact h1 a e h
  | exc c p e => exact h2 c p e h
  | bad => exact h
theorem den_of {α : Type} {ok : α → Env → Prop} {ex : Nat → T → Env → Prop} {o : Option α} {e : Env} (h : Den0 ok ex (R.of o e)) : ∃ a, o = some a ∧ ok a e := by
  cases o with
  | none => exact h.elim
  | some a => exact ⟨a, rfl, h⟩

section
variable {Y : Par} {α β : Type}
/-- how results lie: in hand U -/
abbrev Rl (α β : Type) := Hp → ZP → α → β → List Addr → Prop
def okW (Y : Par) (R : Rl α β) (σ : L2.St) (O : List Addr) (H : Hp) (Z : ZP) (Q : β → Hp → Prop) : α → Env → Prop := fun a e =>
  ∀ b H' Z' U O', EnvR Y.Cl H' Z' e σ O' → R H' Z' a b U → Step O H Z H' Z' U O' → Q b H'
def exW (Y : Par) (W : WX) (σ : L2.St) (O : List Addr) (H : Hp) (Z : ZP) : Nat → T → Env → Prop := fun c p e =>
  ∀ cls d H' Z' O', EnvR Y.Cl H' Z' e σ O' → Y.EX c p cls d H' Z' → Step O H Z H' Z' [] O' → W cls d σ H'
abbrev Den (Y : Par) (R : Rl α β) (W : WX) (σ : L2.St) (O : List Addr) (H : Hp) (Z : ZP) (Q : β → Hp → Prop) (r : Iv.R α) : Prop := Den0 (okW Y R σ O H Z Q) (exW Y W σ O H Z) r
/-- an expression's reading -/
def tE (Y : Par) (R : Rl α β) (W : WX) (f : Env → Iv.R α) : L2.St → Hp → (β → Hp → Prop) → Prop := fun σ H Q =>
  ∃ e Z O, EnvR Y.Cl H Z e σ O ∧ Good H Z O ∧ Den Y R W σ O H Z Q (f e)
abbrev RT (Y : Par) : Rl T V := fun H Z t v U => Rep Y.Cl H Z t v U
abbrev RTs (Y : Par) : Rl (List T) (List V) := fun H Z t v U => Reps Y.Cl H Z t v U
abbrev RB : Rl Bool Bool := fun _ _ a b U => a = b ∧ U = []

theorem exW.step {W : WX} {σ : L2.St} {O O1 U1 : List Addr} {H H1 : Hp} {Z Z1 : ZP} {c : Nat} {p : T} {e : Env} (s : Step O H Z H1 Z1 U1 O1) (h : exW Y W σ O H Z c p e) : exW Y W σ O1 H1 Z1 c p e :=
  fun cls d H' Z' O' h1 h2 h3 => h cls d H' Z' O' h1 h2 (s.trans h3).drop
variable {σ : L2.St} {H : Hp} {W : WX}

/-- running on: from a state that the start has come to, with U1 in hand -/
theorem on_ {R1 : Rl α β} {γ : Type} {O O1 U1 : List Addr} {H1 : Hp} {Z Z1 : ZP} {e1 : Env} {f : Env → Iv.R α} {k : α → Env → Iv.R γ} {okF : γ → Env → Prop} {Q2 : β → Hp → Prop}
    (s : Step O H Z H1 Z1 U1 O1) (he : EnvR Y.Cl H1 Z1 e1 σ O1) (h : Den0 okF (exW Y W σ O H Z) ((f e1).bind k))
    (hk : ∀ b e2 y H2 Z2 U2 O2, EnvR Y.Cl H2 Z2 e2 σ O2 → R1 H2 Z2 b y U2 → Step O1 H1 Z1 H2 Z2 U2 O2 → Step O H Z H2 Z2 (U1 ++ U2) O2 → Keep U1 H1 Z1 H2 Z2 → Den0 okF (exW Y W σ O H Z) (k b e2) → Q2 y H2) :
    tE Y R1 W f σ H1 Q2 := by
  refine ⟨e1, Z1, O1, he, s.goodO, ?_⟩
  rw [den_bind] at h
  refine den_imp h (fun b e2 hd y H2 Z2 U2 O2 h1 h2 h3 => hk b e2 y H2 Z2 U2 O2 h1 h2 h3 (s.trans h3) (s.handKeep h3) hd) fun c p e hx => hx.step s

theorem Step.nilL {O O1 U1 : List Addr} {H1 : Hp} {Z Z1 : ZP} (s : Step O H Z H1 Z1 ([] ++ U1) O1) : Step O H Z H1 Z1 U1 O1 := s
/-- one sub-expression -/
theorem one_ {R1 : Rl α β} {γ δ : Type} {R2 : Rl γ δ} {f : Env → Iv.R α} {k : α → Env → Iv.R γ} {Q : δ → Hp → Prop} {Q2 : β → Hp → Prop} (h : tE Y R2 W (fun e => (f e).bind k) σ H Q)
    (hk : ∀ O Z b e2 y H2 Z2 U2 O2, Good H Z O → EnvR Y.Cl H2 Z2 e2 σ O2 → R1 H2 Z2 b y U2 → Step O H Z H2 Z2 U2 O2 → Den Y R2 W σ O H Z Q (k b e2) → Q2 y H2) : tE Y R1 W f σ H Q2 := by
  obtain ⟨e, Z, O, he, g, h⟩ := h
  exact on_ (Step.refl g) he h fun b e2 y H2 Z2 U2 O2 h1 h2 _ h4 _ h6 => hk O Z b e2 y H2 Z2 U2 O2 g h1 h2 h4 h6

theorem PE.imp {X : Cx} {x : Expr} {t t' : TE} (h : PE X x t) (i : ∀ σ H Q, t' σ H Q → t σ H Q) : PE X x t' := ⟨fun pins s σ H Q I hw => h.run pins s σ H Q I (i _ _ _ hw)⟩
theorem PT.imp {X : Cx} {x : Expr} {t t' : TT} (h : PT X x t) (i : ∀ σ H Q, t' σ H Q → t σ H Q) : PT X x t' := ⟨fun pins s σ H Q I hw => h.run pins s σ H Q I (i _ _ _ hw)⟩
theorem PW.imp {X : Cx} {x : Expr} {t t' : TT} (h : PW X x t) (i : ∀ σ H Q, t' σ H Q → t σ H Q) : PW X x t' := ⟨fun wh pins s σ H Q I hw => h.run wh pins s σ H Q I (i _ _ _ hw)⟩
theorem PA.imp {X : Cx} {x : List Expr} {t t' : TA} (h : PA X x t) (i : ∀ σ H Q, t' σ H Q → t σ H Q) : PA X x t' := ⟨fun pos pins s σ H Q I hw => h.run pos pins s σ H Q I (i _ _ _ hw)⟩
theorem PS.imp {X : Cx} {x : Stmt} {t t' : TS} (h : PS X x t) (i : ∀ D σ H, t' D σ H → t D σ H) : PS X x t' := ⟨fun pins s σ H D I hw => h.run pins s σ H D I (i _ _ _ hw)⟩
theorem PSs.imp {X : Cx} {x : List Stmt} {t t' : TS} (h : PSs X x t) (i : ∀ D σ H, t' D σ H → t D σ H) : PSs X x t' := ⟨fun pins s σ H D I hw => h.run pins s σ H D I (i _ _ _ hw)⟩
theorem PG.imp {X : Cx} {x : Expr} {t t' : TG} (h : PG X x t) (i : ∀ v σ H Q, t' v σ H Q → t v σ H Q) : PG X x t' := ⟨fun pins s σ H v u Q I r hw => h.run pins s σ H v u Q I r (i _ _ _ _ hw)⟩
theorem PI.imp {X : Cx} {tg x : Expr} {t t' : TI} (h : PI X tg x t) (i : ∀ σ H Q, t' σ H Q → t σ H Q) : PI X tg x t' := ⟨fun pins s σ H Q I hw => h.run pins s σ H Q I (i _ _ _ hw)⟩
theorem PI.or {X : Cx} {tg x : Expr} {t t' : TI} (h : PI X tg x t) (h' : PI X tg x t') : PI X tg x (fun σ H Q => t σ H Q ∨ t' σ H Q) := ⟨fun pins s σ H Q I hw => hw.elim (h.run pins s σ H Q I) (h'.run pins s σ H Q I)⟩
theorem PE.or {X : Cx} {x : Expr} {t t' : TE} (h : PE X x t) (h' : PE X x t') : PE X x (fun σ H Q => t σ H Q ∨ t' σ H Q) := ⟨fun pins s σ H Q I hw => hw.elim (h.run pins s σ H Q I) (h'.run pins s σ H Q I)⟩

/-- two sub-expressions -/
theorem two_ {α2 β2 : Type} {R1 : Rl α β} {R2 : Rl α2 β2} {γ δ : Type} {R3 : Rl γ δ} {fa : Env → Iv.R α} {fb : Env → Iv.R α2} {k : α → α2 → Env → Iv.R γ} {Q : δ → Hp → Prop} {Q2 : β → β2 → Hp → Prop}
    (h : tE Y R3 W (fun e => (fa e).bind fun x e1 => (fb e1).bind fun y e2 => k x y e2) σ H Q)
    (keepR : ∀ {a b H1 Z1 U1 H2 Z2}, R1 H1 Z1 a b U1 → Keep U1 H1 Z1 H2 Z2 → R1 H2 Z2 a b U1)
    (hk : ∀ O Z x y e2 v u H2 Z2 U1 U2 O2, Good H Z O → EnvR Y.Cl H2 Z2 e2 σ O2 → R1 H2 Z2 x v U1 → R2 H2 Z2 y u U2 → Step O H Z H2 Z2 (U1 ++ U2) O2 → Den Y R3 W σ O H Z Q (k x y e2) → Q2 v u H2) :
    tE Y R1 W fa σ H fun v H1 => tE Y R2 W fb σ H1 fun u H2 => Q2 v u H2 := by
  refine one_ h fun O Z x e1 v H1 Z1 U1 O1 g he r s hd => ?_
  exact on_ s he hd fun y e2 u H2 Z2 U2 O2 h1 h2 h3 h4 h5 h6 => hk O Z x y e2 v u H2 Z2 U1 U2 O2 g h1 (keepR r h5) h2 h4 h6
theorem keepT {t : T} {v : V} {H1 H2 : Hp} {Z1 Z2 : ZP} {U1 : List Addr} (r : RT Y H1 Z1 t v U1) (k : Keep U1 H1 Z1 H2 Z2) : RT Y H2 Z2 t v U1 := Rep.keep t r k
theorem keepTs {t : List T} {v : List V} {H1 H2 : Hp} {Z1 Z2 : ZP} {U1 : List Addr} (r : RTs Y H1 Z1 t v U1) (k : Keep U1 H1 Z1 H2 Z2) : RTs Y H2 Z2 t v U1 := Reps.keep t r k
theorem keepB {a b : Bool} {H1 H2 : Hp} {Z1 Z2 : ZP} {U1 : List Addr} (r : RB H1 Z1 a b U1) (k : Keep U1 H1 Z1 H2 Z2) : RB H2 Z2 a b U1 := r

/-! ### leaves -/
theorem rep_int {Cl : Pr} {Z : ZP} {i : Int} : Rep Cl H Z (.int i) (.int i) [] := by unfold Rep; exact ⟨rfl, rfl⟩
theorem rep_bl {Cl : Pr} {Z : ZP} {i : Bool} : Rep Cl H Z (.bl i) (.bl i) [] := by unfold Rep; exact ⟨rfl, rfl⟩
theorem rep_non {Cl : Pr} {Z : ZP} : Rep Cl H Z .non .non [] := by unfold Rep; exact ⟨rfl, rfl⟩
theorem rep_str {Cl : Pr} {Z : ZP} {i : Str} : Rep Cl H Z (.str i) (.str i) [] := by unfold Rep; exact ⟨rfl, rfl⟩
theorem int_of {Cl : Pr} {Z : ZP} {i : Int} {v : V} {U : List Addr} (h : Rep Cl H Z (.int i) v U) : v = .int i ∧ U = [] := by unfold Rep at h; exact h
theorem bl_of {Cl : Pr} {Z : ZP} {i : Bool} {v : V} {U : List Addr} (h : Rep Cl H Z (.bl i) v U) : v = .bl i ∧ U = [] := by unfold Rep at h; exact h
theorem non_of {Cl : Pr} {Z : ZP} {v : V} {U : List Addr} (h : Rep Cl H Z .non v U) : v = .non ∧ U = [] := by unfold Rep at h; exact h
theorem str_of {Cl : Pr} {Z : ZP} {i : Str} {v : V} {U : List Addr} (h : Rep Cl H Z (.str i) v U) : v = .str i ∧ U = [] := by unfold Rep at h; exact h
theorem tup_of {Cl : Pr} {Z : ZP} {ts : List T} {v : V} {U : List Addr} (h : Rep Cl H Z (.tup ts) v U) : ∃ a vs, v = .ref a ∧ H a = some (.tup vs) ∧ Reps Cl H Z ts vs U := by unfold Rep at h; exact h
theorem lstT_of {Cl : Pr} {Z : ZP} {ts : List T} {v : V} {U : List Addr} (h : Rep Cl H Z (.lst true ts) v U) : ∃ a vs U', v = .ref a ∧ H a = some (.lst vs) ∧ Reps Cl H Z ts vs U' ∧ U = a :: U' := by unfold Rep at h; exact h
/-- a list of either kind: readable -/
theorem lst_of {Cl : Pr} {Z : ZP} {o : Bool} {ts : List T} {v : V} {U : List Addr} (h : Rep Cl H Z (.lst o ts) v U) : ∃ a vs U', v = .ref a ∧ Rd H a (.lst vs) ∧ Reps Cl H Z ts vs U' ∧ ((o = false ∧ Z a ∧ U' = [] ∧ U = []) ∨ (o = true ∧ H a = some (.lst vs) ∧ U = a :: U')) := by
  cases o with
  | false =>
    unfold Rep at h; obtain ⟨a, vs, e, z, r, h, e2⟩ := h
    exact ⟨a, vs, [], e, r, h, .inl ⟨rfl, z, rfl, e2⟩⟩
  | true =>
    unfold Rep at h; obtain ⟨a, vs, O', e, r, h, e2⟩ := h
    exact ⟨a, vs, O', e, .inl r, h, .inr ⟨rfl, r, e2⟩⟩

/-! ### slots, in any order of what they own -/
theorem gt_lt {e : Env} {i : Nat} {t : T} (q : gt e i = some t) : i < e.length := by
  unfold gt at q
  by_cases hl : i < e.length
  · exact hl
  · rw [List.getElem?_eq_none (by omega)] at q; cases q
theorem gt_set_self {e : Env} {i : Nat} {o : Option T} (h : i < e.length) : gt (e.set i o) i = o := by
  unfold gt; rw [List.getElem?_set_self h]; cases o <;> rfl
theorem gt_set_ne {e : Env} {i j : Nat} {o : Option T} (h : i ≠ j) : gt (e.set i o) j = gt e j := by
  unfold gt; rw [List.getElem?_set_ne h]
variable {Cl : Pr} {Z : ZP}
theorem env_take {e : Env} {O : List Addr} {i : Nat} {t : T} (h : EnvR Cl H Z e σ O) (q : gt e i = some t) :
    ∃ v Oi Or, σ[i]? = some (some v) ∧ Rep Cl H Z t v Oi ∧ O.Perm (Oi ++ Or) ∧ EnvR Cl H Z (e.set i none) σ Or := by
  obtain ⟨v, O1, Oi, O2, h1, h2, h3, h4, h5, h6⟩ := h.at_ q
  refine ⟨v, Oi, O1 ++ O2, h1, h2, ?_, h6⟩
  rw [h3, List.perm_iff_count]; intro x; simp only [List.count_append]; omega
theorem env_drop {e : Env} {O : List Addr} {i : Nat} (h : EnvR Cl H Z e σ O) (x : Option V) : ∃ Od Or, O.Perm (Od ++ Or) ∧ EnvR Cl H Z (e.set i none) σ Or ∧ EnvR Cl H Z (e.set i none) (σ.set i x) Or := by
  by_cases hl : i < e.length
  · obtain ⟨O1, Oi, O2, h1, h2, h3, h4⟩ := EnvR.put h hl
    refine ⟨Oi, O1 ++ O2, ?_, h4, h3 x⟩
    rw [h1, List.perm_iff_count]; intro x; simp only [List.count_append]; omega
  · have hl2 : ¬ i < σ.length := by rw [← h.len]; exact hl
    refine ⟨[], O, List.Perm.refl _, ?_, ?_⟩
    · rw [List.set_eq_of_length_le (by omega)]; exact h
    · rw [List.set_eq_of_length_le (by omega), List.set_eq_of_length_le (by omega)]; exact h
theorem env_store : ∀ {e : Env} {σ : L2.St} {O : List Addr} {i : Nat} {u : T} {w : V} {Ou : List Addr}, EnvR Cl H Z e σ O → i < e.length → gt e i = none → Rep Cl H Z u w Ou →
    ∃ O', O'.Perm (Ou ++ O) ∧ EnvR Cl H Z (e.set i (some u)) (σ.set i (some w)) O'
  | [], _, _, _, _, _, _, _, h, _, _ => by simp at h
  | some s :: e, _, _, 0, _, _, _, h, _, q, _ => by rw [gt_cons_zero] at q; cases q
  | none :: e, _, _, 0, u, w, Ou, h, _, _, hu => by
    unfold EnvR at h; obtain ⟨x, r, e1, h⟩ := h
    subst e1
    refine ⟨_, List.Perm.refl _, ?_⟩
    show EnvR Cl H Z (some u :: e) (some w :: r) _
    unfold EnvR; exact ⟨w, r, Ou, _, rfl, hu, h, rfl⟩
  | none :: e, _, _, i + 1, u, w, Ou, h, l, q, hu => by
    unfold EnvR at h; obtain ⟨x, r, e1, h⟩ := h
    subst e1
    obtain ⟨O', p, h'⟩ := env_store h (by simpa using l) (by rw [gt_cons_succ] at q; exact q) hu
    refine ⟨O', p, ?_⟩
    show EnvR Cl H Z (none :: e.set i (some u)) (x :: r.set i (some w)) _
    unfold EnvR; exact ⟨x, _, rfl, h'⟩
  | some s :: e, _, _, i + 1, u, w, Ou, h, l, q, hu => by
    unfold EnvR at h; obtain ⟨x, r, Oa, Ob, e1, h1, h, e2⟩ := h
    subst e1 e2
    obtain ⟨O', p, h'⟩ := env_store h (by simpa using l) (by rw [gt_cons_succ] at q; exact q) hu
    refine ⟨Oa ++ O', ?_, ?_⟩
    · have p' := List.perm_iff_count.mp p
      rw [List.perm_iff_count]; intro x; have := p' x; simp only [List.count_append] at this ⊢; omega
    · show EnvR Cl H Z (some s :: e.set i (some u)) (some x :: r.set i (some w)) _
      unfold EnvR; exact ⟨x, _, Oa, _, rfl, h1, h', rfl⟩
theorem set_same {σ : L2.St} {i : Nat} {v : V} (h : σ[i]? = some (some v)) : σ.set i (some v) = σ := by
  refine List.ext_getElem? fun j => ?_
  by_cases e : i = j
  · subst e
    have hl : i < σ.length := by
      by_cases hl : i < σ.length
      · exact hl
      · rw [List.getElem?_eq_none (by omega)] at h; cases h
    rw [List.getElem?_set_self hl, h]
  · rw [List.getElem?_set_ne e]
/-- the value stays in the slot, seen as another tree -/
theorem env_put {e : Env} {O : List Addr} {i : Nat} {u : T} {v : V} {Ou : List Addr} (h : EnvR Cl H Z (e.set i none) σ O) (hl : i < e.length) (hv : σ[i]? = some (some v)) (hu : Rep Cl H Z u v Ou) :
    ∃ O', O'.Perm (Ou ++ O) ∧ EnvR Cl H Z (e.set i (some u)) σ O' := by
  obtain ⟨O', p, h'⟩ := env_store h (by rw [List.length_set]; exact hl) (gt_set_self hl) hu
  rw [List.set_set, set_same hv] at h'
  exact ⟨O', p, h'⟩
/-- the slot is stored -/
theorem env_set {e : Env} {O : List Addr} {i : Nat} {u : T} {w : V} {Ou : List Addr} (h : EnvR Cl H Z (e.set i none) σ O) (hl : i < e.length) (hu : Rep Cl H Z u w Ou) :
    ∃ O', O'.Perm (Ou ++ O) ∧ EnvR Cl H Z (e.set i (some u)) (σ.set i (some w)) O' := by
  obtain ⟨O', p, h'⟩ := env_store h (by rw [List.length_set]; exact hl) (gt_set_self hl) hu
  rw [List.set_set] at h'
  exact ⟨O', p, h'⟩
theorem Step.perm {O O1 O2 U1 U2 : List Addr} {H1 : Hp} {Z1 : ZP} (s : Step O H Z H1 Z1 U1 O1) (p : (U1 ++ O1).Perm (U2 ++ O2)) : Step O H Z H1 Z1 U2 O2 :=
  ⟨s.keep, s.there, s.zz, s.zn, ⟨p.nodup s.good.nd, fun a ha => s.good.nz a (p.mem_iff.mpr ha), fun a ha => s.good.live a (p.mem_iff.mpr ha), s.good.zl⟩, fun a ha => s.sub a (p.mem_iff.mpr ha)⟩
theorem Step.permL {O O1 O' U1 : List Addr} {H1 : Hp} {Z1 : ZP} (s : Step O H Z H1 Z1 U1 O1) (p : O.Perm O') : Step O' H Z H1 Z1 U1 O1 :=
  ⟨fun a h1 h2 => s.keep a h1 fun h => h2 (p.mem_iff.mp h), s.there, s.zz, fun a h1 h2 h3 => s.zn a h1 h2 fun h => h3 (p.mem_iff.mp h), s.good, fun a ha => (s.sub a ha).imp_left p.mem_iff.mp⟩
theorem Good.perm {O O' : List Addr} (g : Good H Z O) (p : O.Perm O') : Good H Z O' := ⟨p.nodup g.nd, fun a ha => g.nz a (p.mem_iff.mpr ha), fun a ha => g.live a (p.mem_iff.mpr ha), g.zl⟩
/-- fewer, in another order -/
theorem Step.few {O O1 O2 D U1 U2 : List Addr} {H1 : Hp} {Z1 : ZP} (s : Step O H Z H1 Z1 U1 O1) (p : (U1 ++ O1).Perm (D ++ (U2 ++ O2))) : Step O H Z H1 Z1 U2 O2 :=
  (s.perm (U2 := D) (O2 := U2 ++ O2) p).less (nodup_app.mp (p.nodup s.good.nd)).2.1 fun a ha => List.mem_append_right _ ha
/-- what is in hand is frozen -/
theorem Step.frz {O O1 U1 U2 : List Addr} {H1 : Hp} {Z1 : ZP} (s : Step O H Z H1 Z1 (U1 ++ U2) O1) : Step O H Z H1 (zadd Z1 U1) U2 O1 := s.freeze

variable {X : Cx} {a b c : Expr} {pos : Pos} {fa fb fc : Env → Iv.R T}
abbrev ET (Y : Par) (W : WX) (f : Env → Iv.R T) : TE := tE Y (RT Y) W f
abbrev ETs (Y : Par) (W : WX) (f : Env → Iv.R (List T)) : TA := tE Y (RTs Y) W f
abbrev EB (Y : Par) (W : WX) (f : Env → Iv.R Bool) : TT := tE Y RB W f

theorem e_c {t : T} {v : V} (h : PE X a (tC v)) (r : ∀ H Z, Rep Y.Cl H Z t v []) : PE X a (ET Y W fun e => .ok t e) :=
  PE.imp h fun σ H Q ⟨e, Z, O, he, g, hd⟩ => hd v H Z [] O he (r H Z) (Step.refl g)
theorem e_int {i : Int} {j} : PE X (.Constant (.int i) j pos) (ET Y W fun e => .ok (.int i) e) := e_c pe_int fun _ _ => rep_int
theorem e_bl {i : Bool} {j} : PE X (.Constant (.bool i) j pos) (ET Y W fun e => .ok (.bl i) e) := e_c pe_bl fun _ _ => rep_bl
theorem e_non {j} : PE X (.Constant .none j pos) (ET Y W fun e => .ok .non e) := e_c pe_non fun _ _ => rep_non
theorem e_str {i : Str} {j} : PE X (.Constant (.str i) j pos) (ET Y W fun e => .ok (.str i) e) := e_c pe_str fun _ _ => rep_str
/-- a name, frozen at the look -/
theorem e_var {i : Nat} {x : Str} (h : PE X (.Name x pos) (tVar i)) : PE X (.Name x pos) (ET Y W fun e => readV e i) := by
  refine PE.imp h fun σ H Q ⟨e, Z, O, he, g, hd⟩ => ?_
  replace hd : Den Y (RT Y) W σ O H Z Q (readV e i) := hd
  unfold readV at hd
  cases q : gt e i with
  | none => rw [q] at hd; exact hd.elim
  | some t =>
    rw [q] at hd
    obtain ⟨v, Oi, Or, h1, h2, h3, h4⟩ := env_take he q
    refine ⟨v, h1, ?_⟩
    by_cases hf : isF t = true
    · simp only [hf, if_true] at hd
      have e0 : Oi = [] := Rep.nil_of t hf h2
      subst e0
      exact hd v H Z [] O he h2 (Step.refl g)
    · simp only [hf] at hd
      have s1 : Step O H Z H Z (Oi ++ []) Or := (Step.refl g).perm (by simpa using h3)
      have s2 := s1.freeze
      have r2 : Rep Y.Cl H (zadd Z Oi) (frz t) v [] := Rep.frz t h2 (fun a z => .inl z) fun a ha => .inr ha
      obtain ⟨O', p, h5⟩ := env_put (h4.keep freeze_keep) (gt_lt q) h1 r2
      exact hd v H (zadd Z Oi) [] O' h5 r2 (s2.perm (by simpa using p.symm))
/-- a name's value is moved out of its slot -/
theorem e_mov {io : Bool} {i : Nat} {x : Str} (h : PE X (.Name x pos) (tVar i)) : PE X (.Name x pos) (ET Y W fun e => moveV io e i) := by
  refine PE.imp h fun σ H Q ⟨e, Z, O, he, g, hd⟩ => ?_
  replace hd : Den Y (RT Y) W σ O H Z Q (moveV io e i) := hd
  unfold moveV at hd
  cases q : gt e i with
  | none => rw [q] at hd; exact hd.elim
  | some t =>
    rw [q] at hd
    by_cases hio : (io && i == 0) = true
    · simp only [hio, if_true] at hd; exact hd.elim
    · simp only [hio] at hd
      obtain ⟨v, Oi, Or, h1, h2, h3, h4⟩ := env_take he q
      exact ⟨v, h1, hd v H Z Oi Or h4 h2 ((Step.refl g).perm (by simpa using h3))⟩
/-- .. read without being frozen: for a look that leaves the value as it is -/
theorem at_var {i : Nat} {e : Env} {O : List Addr} {Z : ZP} {t : T} (he : EnvR Y.Cl H Z e σ O) (q : gt e i = some t) {Q : VK} (hk : ∀ v Oi Or, O.Perm (Oi ++ Or) → Rep Y.Cl H Z t v Oi → Q v H) : tVar i σ H Q := by
  obtain ⟨v, Oi, Or, h1, h2, h3, h4⟩ := env_take he q
  exact ⟨v, h1, hk v Oi Or h3 h2⟩
end
end Iv
set_option Elab.async false
set_option linter.all false
set_option maxRecDepth 100000
namespace Iv
open PySem PySem.Spec PyProof.Rows L2

section
variable {X : Cx}
/-! ### rules for lists that may be frozen, tuples times any int -/
def rCatR : R2 := fun x y H Q => ∃ l b xs zs, x = .ref l ∧ y = .ref b ∧ Rd H l (.lst xs) ∧ Rd H b (.lst zs) ∧ xs.length + zs.length ≤ sizeLine ∧ ∀ p, H p = none → Q (.ref p) (upd H p (.lst (xs ++ zs)))
theorem op_catR : OpR X (binaryOp .Add) rCatR := by
  intro pins s σ H x y v u Q I rx ry h
  obtain ⟨l, b, xs, zs, rfl, rfl, hH, hB, hz, q⟩ := h
  cases rx
  cases ry
  obtain ⟨z, its, n, r, e⟩ := hH.ok I.hok
  obtain ⟨z2, its2, n2, r2, e2⟩ := hB.ok I.hok
  have hl := r.length
  have hl2 := r2.length
  refine PySem.P.add_list e e2 ?_ (by rw [List.size_toArray, List.size_toArray]; omega)
  have ea : its.toArray ++ its2.toArray = (its ++ its2).toArray := by simp
  rw [ea]
  exact ⟨.ref _, _, I.lnew (t' := s.toks) (r.append r2) (by rw [List.length_append]; omega), rfl, q _ I.fresh⟩
def rRepR : R2 := fun x y H Q => ∃ l k xs, x = .ref l ∧ y = .int k ∧ Rd H l (.lst xs) ∧ -(2 ^ 63) ≤ k ∧ k < 2 ^ 63 ∧ xs.length * k.toNat ≤ sizeLine ∧
  ∀ p, H p = none → Q (.ref p) (upd H p (.lst (List.replicate k.toNat xs).flatten))
theorem op_repR : OpR X (binaryOp .Mult) rRepR := by
  intro pins s σ H x y v u Q I rx ry h
  obtain ⟨l, k, xs, rfl, rfl, hH, h1, h2, hz, q⟩ := h
  cases rx
  obtain ⟨t, rfl⟩ := ry
  obtain ⟨z, its, n, r, e⟩ := hH.ok I.hok
  have hl := r.length
  have hlen : its.toArray.size * k.toNat ≤ sizeLine := by rw [List.size_toArray, ← hl]; exact hz
  have hcap : ¬ its.toArray.size * k.toNat > (2 ^ 63 - 1) / 8 := by
    have : (sizeLine : Nat) ≤ (2 ^ 63 - 1) / 8 := by decide
    omega
  have hfit : ¬ (!Builtin.List.listFitsIndex k) = true := by
    rw [fitsIndex_both h1 h2]
    exact Bool.false_ne_true
  have hlong : ¬ Builtin.List.listTooLong (its.toArray.size * k.toNat) = true := by
    rw [notLongL hlen]
    exact Bool.false_ne_true
  have hnew : List.foldl (fun x1 x2 => x1 ++ x2) #[] (List.replicate (if its.toArray.isEmpty = true then 0 else k.toNat) its.toArray) = (List.replicate k.toNat its).flatten.toArray := by
    have f0 : ∀ m : Nat, List.foldl (fun x1 x2 => x1 ++ x2) #[] (List.replicate m its.toArray) = (List.replicate m its).flatten.toArray := fun m => by
      have := foldl_rep its m []
      rw [List.nil_append] at this
      exact this
    rw [f0]
    cases its with
    | nil => simp
    | cons a r' => rw [if_neg (by simp)]
  refine wpAny_binaryOp_repeat_ref (T := "list") (U := "int") (by decide) ⟨_, e, rfl⟩ (fun s' => typeIs_int s' k t) noFill_list_mul F.fills_int_mul F.slot_int_rmul repeat_list F.slot_int_index.lookup
    (call_meets F.slot_int_rmul (typeIs_int s k t) F.entry_int_rmul (F.args_int_rmul_2 _ _) (int___rmul___int_list k t l its.toArray n)
      ⟨e, rfl, ⟨_, e, rfl⟩, call_meets F.slot_list_mul ⟨_, e, rfl⟩ F.entry_list_mul (F.args_list_mul_2 _ _) (AutoListH.list___mul___list_int_3 l its.toArray n k t hfit hcap hlong) ⟨e, ?_⟩⟩)
  rw [hnew]
  exact ⟨.ref _, _, I.lnew (t' := s.toks) (r.rep k.toNat) (by rw [PyProof.Rows.lm_len_rep_flat, Nat.mul_comm]; exact hz), rfl, q _ I.fresh⟩

theorem tuple_mul1 (l : Addr) (items : Array Value) (n : Nat) (dd : Option Addr) (sl : Array (Option Value)) (x : Int) (u : Tok) (c0 : (decide (x < -(2 ^ 63)) || decide (x ≥ 2 ^ 63)) = false) (c1 : (items.isEmpty || x == 1) = true) :
    Meets (Builtin.«tuple.__mul__» ⟨[.ref l, .int x u], []⟩) (fun _ R s => s.heap.get? l = some { cls := .type "tuple", dict := dd, data := .seq items n, slots := sl } ∧
      R (.ok (.ret (Value.ref l))) s) :=
  .of_wp fun prog w A R s h => by
    obtain ⟨hp, g, d, tk, os⟩ := s
    obtain ⟨hl, h⟩ := h
    have f1 := AutoSeq1.idx_int
    wp_walk using wpAny_loadPart' hl
    repeat (first
      | (refine wpAny_ite_false (decide_eq_false (by rw [c0]; exact Bool.false_ne_true)) ?_; wp_walk using wpAny_loadPart' hl)
      | (refine wpAny_ite_true (decide_eq_true c1) ?_; wp_walk using wpAny_loadPart' hl))
    all_goals exact ⟨_, rfl, h⟩
theorem tuple_mul0 (l : Addr) (items : Array Value) (n : Nat) (dd : Option Addr) (sl : Array (Option Value)) (x : Int) (u : Tok) (c0 : (decide (x < -(2 ^ 63)) || decide (x ≥ 2 ^ 63)) = false) (c1 : (items.isEmpty || x == 1) = false) (c2 : (decide (x ≤ 0) || items.isEmpty) = true) :
    Meets (Builtin.«tuple.__mul__» ⟨[.ref l, .int x u], []⟩) (fun _ R s => s.heap.get? l = some { cls := .type "tuple", dict := dd, data := .seq items n, slots := sl } ∧
      R (.ok (.ret (Value.ref s.heap.objs.size))) { s with heap := s.heap.push { cls := Value.type "tuple", data := Data.seq #[] }, toks := s.toks }) :=
  .of_wp fun prog w A R s h => by
    obtain ⟨hp, g, d, tk, os⟩ := s
    obtain ⟨hl, h⟩ := h
    have f1 := AutoSeq1.idx_int
    wp_walk using wpAny_loadPart' hl
    repeat (first
      | (refine wpAny_ite_false (decide_eq_false (by rw [c0]; exact Bool.false_ne_true)) ?_; wp_walk using wpAny_loadPart' hl)
      | (refine wpAny_ite_false (decide_eq_false (by rw [c1]; exact Bool.false_ne_true)) ?_; wp_walk using wpAny_loadPart' hl)
      | (refine wpAny_ite_true (decide_eq_true c2) ?_; wp_walk using wpAny_loadPart' hl))
    all_goals exact ⟨_, rfl, h⟩

def rRepTA (K : PySem.W.Frag) : R2 := fun x y H Q => ∃ l k xs, x = .ref l ∧ y = .int k ∧ SqT K H l xs ∧ -1000 ≤ k ∧ k ≤ 1000 ∧ xs.length ≤ 1000 ∧ (xs = [] ∨ k = 1 → Q (.ref l) H) ∧ (¬ (xs = [] ∨ k = 1) → ∀ p, H p = none → Q (.ref p) (upd H p (.tup (List.replicate k.toNat xs).flatten)))
theorem op_repTA : OpR X (binaryOp .Mult) (rRepTA X.K) := by
  intro pins s σ H x y v u Q I rx ry h
  obtain ⟨l, k, xs, rfl, rfl, hT, h1, h2, hz, q1, q2⟩ := h
  by_cases hk : 2 ≤ k ∧ xs ≠ []
  · exact op_repT pins s σ H _ _ v u Q I rx ry ⟨l, k, xs, rfl, rfl, hT, hk.2, hk.1, h2, hz, q2 fun z => by rcases z with z | z; exact hk.2 z; omega⟩
  cases rx
  obtain ⟨t, rfl⟩ := ry
  obtain ⟨its, r, ⟨⟨cls, dd, data, sl⟩, ho, hc, n, hd⟩, hs⟩ := I.tuple hT
  simp only at hc hd
  subst hc hd
  have hle : its.length = xs.length := r.length.symm
  have c0 : (decide (k < -(2 ^ 63)) || decide (k ≥ 2 ^ 63)) = false := by
    rw [decide_eq_false (by omega), decide_eq_false (by omega)] <;> rfl
  by_cases hs : xs = [] ∨ k = 1
  · have c1 : (its.toArray.isEmpty || k == 1) = true := by
      rcases hs with z | z
      · rw [z] at hle
        rw [List.eq_nil_of_length_eq_zero hle]; rfl
      · rw [z]; simp
    refine wpAny_binaryOp_repeat_ref (T := "tuple") (U := "int") (by decide) ⟨_, ho, rfl⟩ (fun s' => typeIs_int s' k t) noFill_tuple_mul F.fills_int_mul F.slot_int_rmul repeat_tuple F.slot_int_index.lookup
      (call_meets F.slot_int_rmul (typeIs_int s k t) F.entry_int_rmul (F.args_int_rmul_2 _ _) (int_rmul_tuple k t l its.toArray n dd sl)
        ⟨ho, rfl, ⟨_, ho, rfl⟩, call_meets F.slot_tuple_mul ⟨_, ho, rfl⟩ F.entry_tuple_mul (F.args_tuple_mul_2 _ _) (tuple_mul1 l its.toArray n dd sl k t c0 c1) ⟨ho, ?_⟩⟩)
    exact ⟨.ref l, H, I, rfl, q1 hs⟩
  · have hk0 : k ≤ 0 := by
      by_cases z : 2 ≤ k
      · exact absurd ⟨z, fun e => hs (.inl e)⟩ hk
      · have : k ≠ 1 := fun e => hs (.inr e)
        omega
    have hne : its ≠ [] := fun e => hs (.inl (by rw [e] at hle; exact List.eq_nil_of_length_eq_zero hle.symm))
    have c1 : (its.toArray.isEmpty || k == 1) = false := by
      have e1 : its.toArray.isEmpty = false := by
        cases its with
        | nil => exact absurd rfl hne
        | cons a b => rfl
      rw [e1, Bool.false_or]
      exact beq_eq_false_iff_ne.mpr (by omega)
    have c2 : (decide (k ≤ 0) || its.toArray.isEmpty) = true := by rw [decide_eq_true hk0]; rfl
    refine wpAny_binaryOp_repeat_ref (T := "tuple") (U := "int") (by decide) ⟨_, ho, rfl⟩ (fun s' => typeIs_int s' k t) noFill_tuple_mul F.fills_int_mul F.slot_int_rmul repeat_tuple F.slot_int_index.lookup
      (call_meets F.slot_int_rmul (typeIs_int s k t) F.entry_int_rmul (F.args_int_rmul_2 _ _) (int_rmul_tuple k t l its.toArray n dd sl)
        ⟨ho, rfl, ⟨_, ho, rfl⟩, call_meets F.slot_tuple_mul ⟨_, ho, rfl⟩ F.entry_tuple_mul (F.args_tuple_mul_2 _ _) (tuple_mul0 l its.toArray n dd sl k t c0 c1 c2) ⟨ho, ?_⟩⟩)
    have e0 : k.toNat = 0 := by omega
    refine ⟨.ref s.heap.objs.size, _, I.laid (t' := s.toks) (o := .tup (List.replicate k.toNat xs).flatten) (fun b ob q => Heap.get?_push_of_some _ q) (Nat.le_refl _) ?_, rfl, q2 hs _ (I.hok.fresh (Nat.le_refl _))⟩
    rw [e0]
    exact ⟨Nat.zero_le _, [], .nil, IsTup.new _ _⟩
end

/-! ### operations on values -/
section
variable {Y : Par} {σ : L2.St} {H : Hp} {W : WX} {O : List Addr} {Z : ZP} {Q : VK} {X : Cx}
theorem ite_some {c : Prop} [Decidable c] {a z : T} (h : (if c then some a else none) = some z) : c ∧ a = z := by
  split at h
  · exact ⟨‹_›, Option.some.inj h⟩
  · cases h
theorem szEq : SZ = sizeLine := by rw [sizeLine_eq]; rfl
/-- a value that is no new object -/
theorem fin_v {t : T} {v : V} {e1 : Env} {H1 : Hp} {Z1 : ZP} {U O1 : List Addr} (hd : okW Y (RT Y) σ O H Z Q t e1) (he : EnvR Y.Cl H1 Z1 e1 σ O1) (s : Step O H Z H1 Z1 U O1) (r : Rep Y.Cl H1 Z1 t v []) : Q v H1 := hd v H1 Z1 [] O1 he r s.drop
theorem fin_int {i : Int} {e1 : Env} {H1 : Hp} {Z1 : ZP} {U O1 : List Addr} (hd : okW Y (RT Y) σ O H Z Q (.int i) e1) (he : EnvR Y.Cl H1 Z1 e1 σ O1) (s : Step O H Z H1 Z1 U O1) : Q (.int i) H1 := fin_v hd he s rep_int
theorem fin_bl {i : Bool} {e1 : Env} {H1 : Hp} {Z1 : ZP} {U O1 : List Addr} (hd : okW Y (RT Y) σ O H Z Q (.bl i) e1) (he : EnvR Y.Cl H1 Z1 e1 σ O1) (s : Step O H Z H1 Z1 U O1) : Q (.bl i) H1 := fin_v hd he s rep_bl
/-- a new tuple -/
theorem fin_tup {ts : List T} {vs : List V} {e1 : Env} {H1 : Hp} {Z1 : ZP} {U O1 : List Addr} {p : Addr} (hd : okW Y (RT Y) σ O H Z Q (.tup ts) e1) (he : EnvR Y.Cl H1 Z1 e1 σ O1) (s : Step O H Z H1 Z1 U O1) (r : Reps Y.Cl H1 Z1 ts vs U) (hp : H1 p = none) :
    Q (.ref p) (upd H1 p (.tup vs)) := by
  refine hd _ _ Z1 U O1 (he.keep (new_keep s.goodO hp)) ?_ (s.new hp)
  unfold RT Rep
  exact ⟨p, vs, rfl, upd_same, r.keep _ (new_keep (s.good.sub (nodup_app.mp s.good.nd).1 fun a ha => List.mem_append_left _ ha) hp)⟩
/-- a new list -/
theorem fin_lst {ts : List T} {vs : List V} {e1 : Env} {H1 : Hp} {Z1 : ZP} {U O1 : List Addr} {p : Addr} (hd : okW Y (RT Y) σ O H Z Q (.lst true ts) e1) (he : EnvR Y.Cl H1 Z1 e1 σ O1) (s : Step O H Z H1 Z1 U O1) (r : Reps Y.Cl H1 Z1 ts vs U) (hp : H1 p = none) :
    Q (.ref p) (upd H1 p (.lst vs)) := by
  refine hd _ _ Z1 (p :: U) O1 (he.keep (new_keep s.goodO hp)) ?_ (s.own hp trivial)
  unfold RT Rep
  exact ⟨p, vs, U, rfl, upd_same, r.keep _ (new_keep (s.good.sub (nodup_app.mp s.good.nd).1 fun a ha => List.mem_append_left _ ha) hp), rfl⟩
/-- a two-place operation -/
def BinOk (Y : Par) (o : BOp) (r : R2) : Prop := ∀ (W : WX) (σ : L2.St) (O : List Addr) (H : Hp) (Z : ZP) (Q : VK) (x y z : T) (e2 : Env) (v u : V) (H2 : Hp) (Z2 : ZP) (U1 U2 O2 : List Addr), EnvR Y.Cl H2 Z2 e2 σ O2 → Rep Y.Cl H2 Z2 x v U1 → Rep Y.Cl H2 Z2 y u U2 → Step O H Z H2 Z2 (U1 ++ U2) O2 →
  bin o x y = some z → okW Y (RT Y) σ O H Z Q z e2 → r v u H2 Q
theorem mulOk_ok {i j : Int} (h : mulOk i j = true) : CMul i j ∨ CMulW i j := by
  unfold mulOk at h
  rw [Bool.or_eq_true, Bool.or_eq_true, decide_eq_true_iff, decide_eq_true_iff, decide_eq_true_iff] at h
  rcases h with (h | h) | h
  · refine .inl (.inl ?_); omega
  · refine .inl (.inr ?_); omega
  · exact .inr h
theorem op_mulB : OpR X (binaryOp .Mult) (rI (fun i j => mulOk i j = true) fun i j => .int (i * j)) := opI fun i j _ _ _ _ _ hc q => mul_int q ((mulOk_ok hc).elim CMul.ok CMulW.ok)
theorem op_fdivB : OpR X (binaryOp .FloorDiv) (rI (fun _ j => j ≠ 0 ∧ j.natAbs.log2 < 9000) fun i j => .int (i.fdiv j)) := opI fun _ _ _ _ _ _ _ hc q => floordiv_int hc.1 q (.inl (PyProof.noPylong_of_log2 hc.2))
theorem iop_mulB : OpR X (inplaceOp .Mult) (rI (fun i j => mulOk i j = true) fun i j => .int (i * j)) := opI fun i j _ _ _ _ _ hc q => imul_int q ((mulOk_ok hc).elim CMul.ok CMulW.ok)
theorem sq_tup {K : PySem.W.Frag} {a : Addr} {vs : List V} (h : H a = some (.tup vs)) : SqT K H a vs := .inl (.inl h)
theorem Reps.reps {Cl : Pr} {ts : List T} {vs : List V} (h : Reps Cl H Z ts vs []) : ∀ k : Nat, Reps Cl H Z (List.replicate k ts).flatten (List.replicate k vs).flatten []
  | 0 => Reps.nil
  | k + 1 => by
    rw [List.replicate_succ, List.replicate_succ, List.flatten_cons, List.flatten_cons]
    exact h.app (Reps.reps h k)
def rAddB (K : PySem.W.Frag) : R2 := fun x y H Q => rI0 (fun i j => .int (i + j)) x y H Q ∨ rCatA K x y H Q ∨ rCatR x y H Q ∨ (∃ i j, x = .str i ∧ y = .str j ∧ i.length + j.length ≤ sizeLine ∧ Q (.str (i ++ j)) H)
theorem op_addB : OpR X (binaryOp .Add) (rAddB X.K) := op_add.or (op_catA.or (op_catR.or op_add_str))
theorem add_ok {K : PySem.W.Frag} : BinOk Y .add (rAddB K) := by
  intro W σ O H Z Q x y z e2 v u H2 Z2 U1 U2 O2 he rx ry s hb hd
  unfold bin at hb
  split at hb <;> rename_i h1 <;> (try cases h1)
  · cases hb
    obtain ⟨rfl, rfl⟩ := int_of rx
    obtain ⟨rfl, rfl⟩ := int_of ry
    exact .inl ⟨_, _, rfl, rfl, fin_int hd he s⟩
  · rename_i a b
    obtain ⟨hz, hb⟩ := ite_some hb
    subst hb
    obtain ⟨l, xs, rfl, hl, r1⟩ := tup_of rx
    obtain ⟨m, ys, rfl, hm, r2⟩ := tup_of ry
    refine .inr (.inl ⟨l, m, xs, ys, rfl, rfl, sq_tup hl, sq_tup hm, by rw [← r1.len, ← r2.len, ← szEq]; exact hz, fun e => ?_, fun _ e => ?_, fun _ _ p hp => fin_tup hd he s (r1.app r2) hp⟩)
    · have ea : a = [] := List.eq_nil_of_length_eq_zero (by rw [r1.len, e]; rfl)
      subst ea
      unfold Reps at r1
      obtain ⟨_, e1⟩ := r1
      subst e1
      refine hd _ H2 Z2 U2 O2 he ?_ s
      unfold RT Rep; exact ⟨m, ys, rfl, hm, r2⟩
    · have ea : b = [] := List.eq_nil_of_length_eq_zero (by rw [r2.len, e]; rfl)
      subst ea
      unfold Reps at r2
      obtain ⟨_, e1⟩ := r2
      subst e1
      refine hd _ H2 Z2 U1 O2 he ?_ (by simpa using s)
      rw [List.append_nil]
      unfold RT Rep; exact ⟨l, xs, rfl, hl, r1⟩
  · rename_i o1 a o2 b
    obtain ⟨hz, hb⟩ := ite_some hb
    subst hb
    obtain ⟨l, xs, Ul, rfl, hl, r1, k1⟩ := lst_of rx
    obtain ⟨m, ys, Um, rfl, hm, r2, k2⟩ := lst_of ry
    refine .inr (.inr (.inl ⟨l, m, xs, ys, rfl, rfl, hl, hm, by rw [← r1.len, ← r2.len, ← szEq]; exact hz, fun p hp => fin_lst hd he (U := Ul ++ Um) ?_ (r1.app r2) hp⟩))
    refine s.few (D := U1.take (U1.length - Ul.length) ++ U2.take (U2.length - Um.length)) ?_
    have e1 : U1 = U1.take (U1.length - Ul.length) ++ Ul := by
      rcases k1 with ⟨_, _, q1, q2⟩ | ⟨_, _, q⟩
      · rw [q1, q2]; rfl
      · rw [q]; simp
    have e2 : U2 = U2.take (U2.length - Um.length) ++ Um := by
      rcases k2 with ⟨_, _, q1, q2⟩ | ⟨_, _, q⟩
      · rw [q1, q2]; rfl
      · rw [q]; simp
    generalize U1.take (U1.length - Ul.length) = D1 at *
    generalize U2.take (U2.length - Um.length) = D2 at *
    rw [e1, e2, List.perm_iff_count]; intro x; simp only [List.count_append]; omega
  · obtain ⟨hz, hb⟩ := ite_some hb
    subst hb
    obtain ⟨rfl, rfl⟩ := str_of rx
    obtain ⟨rfl, rfl⟩ := str_of ry
    exact .inr (.inr (.inr ⟨_, _, rfl, rfl, by rw [← szEq]; exact hz, fin_v hd he s rep_str⟩))
  all_goals cases hb
theorem sub_ok : BinOk Y .sub (rI0 fun i j => .int (i - j)) := by
  intro W σ O H Z Q x y z e2 v u H2 Z2 U1 U2 O2 he rx ry s hb hd
  unfold bin at hb
  split at hb <;> rename_i h1 <;> (try cases h1)
  · cases hb
    obtain ⟨rfl, rfl⟩ := int_of rx
    obtain ⟨rfl, rfl⟩ := int_of ry
    exact ⟨_, _, rfl, rfl, fin_int hd he s⟩
  all_goals cases hb
theorem fdiv_ok : BinOk Y .fdiv (rI (fun _ j => j ≠ 0 ∧ j.natAbs.log2 < 9000) fun i j => .int (i.fdiv j)) := by
  intro W σ O H Z Q x y z e2 v u H2 Z2 U1 U2 O2 he rx ry s hb hd
  unfold bin at hb
  split at hb <;> rename_i h1 <;> (try cases h1)
  · obtain ⟨hz, hb⟩ := ite_some hb
    subst hb
    obtain ⟨rfl, rfl⟩ := int_of rx
    obtain ⟨rfl, rfl⟩ := int_of ry
    exact ⟨_, _, rfl, rfl, hz, fin_int hd he s⟩
  all_goals cases hb
theorem mod_ok : BinOk Y .mod (rI (fun _ j => j ≠ 0) fun i j => .int (i.fmod j)) := by
  intro W σ O H Z Q x y z e2 v u H2 Z2 U1 U2 O2 he rx ry s hb hd
  unfold bin at hb
  split at hb <;> rename_i h1 <;> (try cases h1)
  · obtain ⟨hz, hb⟩ := ite_some hb
    subst hb
    obtain ⟨rfl, rfl⟩ := int_of rx
    obtain ⟨rfl, rfl⟩ := int_of ry
    exact ⟨_, _, rfl, rfl, hz, fin_int hd he s⟩
  all_goals cases hb
theorem pow_ok : BinOk Y .pow (rI CPow fun i j => .int (i ^ j.toNat)) := by
  intro W σ O H Z Q x y z e2 v u H2 Z2 U1 U2 O2 he rx ry s hb hd
  unfold bin at hb
  split at hb <;> rename_i h1 <;> (try cases h1)
  · obtain ⟨hz, hb⟩ := ite_some hb
    subst hb
    obtain ⟨rfl, rfl⟩ := int_of rx
    obtain ⟨rfl, rfl⟩ := int_of ry
    exact ⟨_, _, rfl, rfl, hz, fin_int hd he s⟩
  all_goals cases hb
def rMulB (K : PySem.W.Frag) : R2 := fun x y H Q => rI (fun i j => mulOk i j = true) (fun i j => .int (i * j)) x y H Q ∨ rRepTA K x y H Q ∨ rRepR x y H Q
theorem op_mulAll : OpR X (binaryOp .Mult) (rMulB X.K) := op_mulB.or (op_repTA.or op_repR)
theorem reps_nil_of {Cl : Pr} {ts : List T} {vs : List V} {U : List Addr} (f : isFs ts = true) (r : Reps Cl H Z ts vs U) : U = [] := Reps.nil_of ts f r
theorem mul_ok {K : PySem.W.Frag} : BinOk Y .mul (rMulB K) := by
  intro W σ O H Z Q x y z e2 v u H2 Z2 U1 U2 O2 he rx ry s hb hd
  unfold bin at hb
  split at hb <;> rename_i h1 <;> (try cases h1)
  · obtain ⟨hz, hb⟩ := ite_some hb
    subst hb
    obtain ⟨rfl, rfl⟩ := int_of rx
    obtain ⟨rfl, rfl⟩ := int_of ry
    exact .inl ⟨_, _, rfl, rfl, hz, fin_int hd he s⟩
  · rename_i a k
    obtain ⟨hz, hb⟩ := ite_some hb
    subst hb
    simp only [Bool.and_eq_true, decide_eq_true_eq] at hz
    obtain ⟨⟨⟨f, z1⟩, z2⟩, z3⟩ := hz
    obtain ⟨l, xs, rfl, hl, r1⟩ := tup_of rx
    obtain ⟨rfl, rfl⟩ := int_of ry
    have e0 := reps_nil_of f r1
    subst e0
    have hlen := r1.len
    refine .inr (.inl ⟨l, k, xs, rfl, rfl, sq_tup hl, z3, z1, by omega, fun hk => ?_, fun _ p hp => fin_tup hd he s.drop (r1.reps _) hp⟩)
    refine hd _ H2 Z2 [] O2 he ?_ s
    unfold RT Rep
    refine ⟨l, xs, rfl, hl, ?_⟩
    rcases hk with rfl | rfl
    · have : a = [] := List.eq_nil_of_length_eq_zero (by rw [hlen]; rfl)
      subst this
      unfold repl
      have : (List.replicate k.toNat ([] : List T)).flatten = [] := by simp
      rw [this]; exact r1
    · unfold repl
      have : (List.replicate (1 : Int).toNat a).flatten = a := by simp
      rw [this]; exact r1
  · rename_i o a k
    obtain ⟨hz, hb⟩ := ite_some hb
    subst hb
    simp only [Bool.and_eq_true, decide_eq_true_eq] at hz
    obtain ⟨⟨⟨f, z1⟩, z2⟩, z3⟩ := hz
    obtain ⟨l, xs, Ul, rfl, hl, r1, k1⟩ := lst_of rx
    obtain ⟨rfl, rfl⟩ := int_of ry
    have e0 := reps_nil_of f r1
    subst e0
    have hlen := r1.len
    exact .inr (.inr ⟨l, k, xs, rfl, rfl, hl, z1, z2, by rw [← hlen, ← szEq]; exact z3, fun p hp => fin_lst hd he s.drop (r1.reps _) hp⟩)
  all_goals cases hb
end
end Iv
set_option Elab.async false
set_option linter.all false
set_option maxRecDepth 100000
namespace Iv
open PySem PySem.Spec PyProof.Rows L2
section
variable {Y : Par} {σ : L2.St} {H : Hp} {W : WX} {X : Cx} {a b c : Expr} {es : List Expr} {pos : Pos} {fa fb fc : Env → Iv.R T} {fs : Env → Iv.R (List T)}

/-! ### displays -/
theorem a_nil : PA X [] (ETs Y W fun e => .ok [] e) := PA.imp pa_nil fun σ H Q ⟨e, Z, O, he, g, hd⟩ => hd [] H Z [] O he Reps.nil (Step.refl g)
theorem a_cons (ha : PE X a (ET Y W fa)) (hr : PA X es (ETs Y W fs)) (hs : starEach (a :: es) X.env = (false, eval a X.env) :: starEach es X.env) :
    PA X (a :: es) (ETs Y W fun e => (fa e).bind fun x e => (fs e).bind fun xs e => .ok (x :: xs) e) := by
  refine PA.imp (pa_cons ha hr hs) fun σ H Q h => ?_
  refine two_ h keepT fun O Z x xs e2 v vs H2 Z2 U1 U2 O2 g he r1 r2 s hd => ?_
  refine hd (v :: vs) H2 Z2 (U1 ++ U2) O2 he ?_ s
  unfold RTs Reps
  exact ⟨v, vs, U1, U2, rfl, r1, r2, rfl⟩
theorem e_tup {x1} (h : PA X es (ETs Y W fs)) (hl : ∀ e ts e', fs e = .ok ts e' → ts.length ≤ SZ) : PE X (.Tuple es x1 pos) (ET Y W fun e => (fs e).bind fun ts e => .ok (.tup ts) e) := by
  refine PE.imp (pe_tup h) fun σ H Q ⟨e, Z, O, he, g, hd⟩ => ?_
  refine ⟨e, Z, O, he, g, ?_⟩
  cases q : fs e with
  | bad => simp only [q] at hd; exact hd
  | exc c p e' => simp only [q] at hd; exact hd
  | ok ts e' =>
    simp only [q] at hd
    intro vs H1 Z1 U O1 he1 r s
    exact ⟨by rw [← r.len, ← szEq]; exact hl _ _ _ q, fun p hp => fin_tup hd he1 s r hp⟩
theorem e_lst (h : PA X es (ETs Y W fs)) (hl : ∀ e ts e', fs e = .ok ts e' → ts.length ≤ SZ) : PE X (.List es pos) (ET Y W fun e => (fs e).bind fun ts e => .ok (.lst true (frzs ts)) e) := by
  refine PE.imp (pe_lst h) fun σ H Q ⟨e, Z, O, he, g, hd⟩ => ?_
  refine ⟨e, Z, O, he, g, ?_⟩
  cases q : fs e with
  | bad => simp only [q] at hd; exact hd
  | exc c p e' => simp only [q] at hd; exact hd
  | ok ts e' =>
    simp only [q] at hd
    intro vs H1 Z1 U O1 he1 r s
    refine ⟨by rw [← r.len, ← szEq]; exact hl _ _ _ q, fun p hp => ?_⟩
    exact fin_lst hd (he1.keep freeze_keep) (Step.frz (U2 := []) (by simpa using s)) (r.frz _ (fun a z => .inl z) fun a ha => .inr ha) hp

/-! ### operators -/
theorem e_bin {o : BOp} {op : Operator} {r : R2} (ho : OpR X (binaryOp op) r) (hr : BinOk Y o r) (ha : PE X a (ET Y W fa)) (hb : PE X b (ET Y W fb)) :
    PE X (.BinOp a op b pos) (ET Y W fun e => (fa e).bind fun x e => (fb e).bind fun y e => R.of (bin o x y) e) := by
  refine PE.imp (pe_op ho ha hb) fun σ H Q h => ?_
  refine two_ h keepT fun O Z x y e2 v u H2 Z2 U1 U2 O2 g he r1 r2 s hd => ?_
  obtain ⟨z, hz, hd⟩ := den_of hd
  exact hr W σ O H Z Q x y z e2 v u H2 Z2 U1 U2 O2 he r1 r2 s hz hd
theorem e_neg (ha : PE X a (ET Y W fa)) : PE X (.UnaryOp .USub a pos) (ET Y W fun e => (fa e).bind fun x e => (match x with
    | .int i => .ok (.int (-i)) e
    | _ => .bad)) := by
  refine PE.imp (pe_un un_neg ha) fun σ H Q h => ?_
  refine one_ h fun O Z x e2 v H2 Z2 U2 O2 g he r s hd => ?_
  cases x <;> first | exact hd.elim | skip
  obtain ⟨rfl, rfl⟩ := int_of r
  exact ⟨_, rfl, fin_int hd he s⟩
/-- the test of a value -/
def asB (r : Iv.R T) : Iv.R Bool := r.bind fun x e => match x with
  | .bl b => .ok b e
  | _ => .bad
theorem t_val (ha : PE X a (ET Y W fa)) (hi : ∀ whole, isTrue a X.env whole = (do let v ← whole; standAt a.pos; holding [v] (truthy v))) : PT X a (EB Y W fun e => asB (fa e)) := by
  refine PT.imp (pt_val ha hi) fun σ H Q h => ?_
  refine one_ h fun O Z x e2 v H2 Z2 U2 O2 g he r s hd => ?_
  cases x <;> first | exact hd.elim | skip
  obtain ⟨rfl, rfl⟩ := bl_of r
  exact ⟨_, rfl, hd _ H2 Z2 [] O2 he ⟨rfl, rfl⟩ s⟩
theorem e_not (ha : PE X a (ET Y W fa)) : PE X (.UnaryOp .Not a pos) (ET Y W fun e => (fa e).bind fun x e => (match x with
    | .bl b => .ok (.bl (!b)) e
    | _ => .bad)) := by
  refine PE.imp (pe_not ha) fun σ H Q h => ?_
  refine one_ h fun O Z x e2 v H2 Z2 U2 O2 g he r s hd => ?_
  cases x <;> first | exact hd.elim | skip
  obtain ⟨rfl, rfl⟩ := bl_of r
  exact ⟨_, rfl, fin_bl hd he s⟩
theorem t_not (ha : PT X a (EB Y W fun e => asB (fa e))) : PT X (.UnaryOp .Not a pos) (EB Y W fun e => asB ((fa e).bind fun x e => (match x with
    | .bl b => .ok (.bl (!b)) e
    | _ => .bad))) := by
  refine PT.imp (pt_not ha) fun σ H Q ⟨e, Z, O, he, g, hd⟩ => ⟨e, Z, O, he, g, ?_⟩
  show Den Y RB W σ O H Z _ (asB (fa e))
  unfold asB at hd ⊢
  cases q : fa e with
  | bad => simp only [q] at hd; exact hd
  | exc c p e' => simp only [q] at hd; exact hd
  | ok t e' =>
    simp only [q] at hd
    cases t <;> first | exact hd.elim | skip
    intro b2 H1 Z1 U O1 he1 r s
    obtain ⟨rfl, rfl⟩ := r
    exact hd _ H1 Z1 [] O1 he1 ⟨rfl, rfl⟩ s
abbrev andF (fa fb : Env → Iv.R T) : Env → Iv.R T := fun e => (fa e).bind fun x e => (match x with
    | .bl true => fb e
    | .bl false => .ok (.bl false) e
    | _ => .bad)
abbrev orF (fa fb : Env → Iv.R T) : Env → Iv.R T := fun e => (fa e).bind fun x e => (match x with
    | .bl true => .ok (.bl true) e
    | .bl false => fb e
    | _ => .bad)
abbrev ifF (fc fa fb : Env → Iv.R T) : Env → Iv.R T := fun e => (fc e).bind fun x e => (match x with
    | .bl true => fa e
    | .bl false => fb e
    | _ => .bad)
theorem on_end {α β : Type} {R1 : Rl α β} {O O1 U1 : List Addr} {H H1 : Hp} {Z Z1 : ZP} {e1 : Env} {f : Env → Iv.R α} {Q : β → Hp → Prop}
    (s : Step O H Z H1 Z1 U1 O1) (he : EnvR Y.Cl H1 Z1 e1 σ O1) (h : Den Y R1 W σ O H Z Q (f e1)) : tE Y R1 W f σ H1 Q := by
  refine ⟨e1, Z1, O1, he, s.goodO, ?_⟩
  refine den_imp h (fun a e2 hd y H2 Z2 U2 O2 h1 h2 h3 => hd y H2 Z2 U2 O2 h1 h2 ?_) fun c p e hx => hx.step s
  exact (s.trans h3).few (D := U1) (by rw [List.append_assoc])
theorem e_and {rest : List Expr} (ha : PE X a (ET Y W fa)) (hb : PE X (.BoolOp .And (b :: rest) pos) (ET Y W fb)) : PE X (.BoolOp .And (a :: b :: rest) pos) (ET Y W (andF fa fb)) := by
  refine PE.imp (pe_and ha hb) fun σ H Q h => ?_
  refine one_ h fun O Z x e2 v H2 Z2 U2 O2 g he r s hd => ?_
  cases x <;> first | exact hd.elim | skip
  rename_i k
  obtain ⟨rfl, rfl⟩ := bl_of r
  refine ⟨_, rfl, ?_⟩
  cases k with
  | true => exact on_end s he hd
  | false => exact fin_bl hd he s
theorem e_or {rest : List Expr} (ha : PE X a (ET Y W fa)) (hb : PE X (.BoolOp .Or (b :: rest) pos) (ET Y W fb)) : PE X (.BoolOp .Or (a :: b :: rest) pos) (ET Y W (orF fa fb)) := by
  refine PE.imp (pe_or ha hb) fun σ H Q h => ?_
  refine one_ h fun O Z x e2 v H2 Z2 U2 O2 g he r s hd => ?_
  cases x <;> first | exact hd.elim | skip
  rename_i k
  obtain ⟨rfl, rfl⟩ := bl_of r
  refine ⟨_, rfl, ?_⟩
  cases k with
  | false => exact on_end s he hd
  | true => exact fin_bl hd he s
theorem asB_cases {r : Iv.R T} {ok : Bool → Env → Prop} {ex : Nat → T → Env → Prop} (h : Den0 ok ex (asB r)) : Den0 (fun t e => ∃ b, t = .bl b ∧ ok b e) ex r := by
  cases r with
  | bad => exact h
  | exc c p e => exact h
  | ok t e =>
    unfold asB at h
    cases t <;> first | exact h.elim | skip
    exact ⟨_, rfl, h⟩
/-- a sub-test of a bigger reading -/
theorem test_ {O : List Addr} {Z : ZP} {e : Env} {γ δ : Type} {R2 : Rl γ δ} {fc : Env → Iv.R T} {k : Bool → Env → Iv.R γ} {Q : δ → Hp → Prop} {Q2 : Bool → Hp → Prop} (he : EnvR Y.Cl H Z e σ O) (g : Good H Z O)
    (h : Den Y R2 W σ O H Z Q ((fc e).bind fun x e => match x with
      | .bl b => k b e
      | _ => .bad))
    (hk : ∀ b e2 H2 Z2 O2, EnvR Y.Cl H2 Z2 e2 σ O2 → Step O H Z H2 Z2 [] O2 → Den Y R2 W σ O H Z Q (k b e2) → Q2 b H2) : tE Y RB W (fun e => asB (fc e)) σ H Q2 := by
  refine ⟨e, Z, O, he, g, ?_⟩
  show Den Y RB W σ O H Z _ (asB (fc e))
  unfold asB
  cases q : fc e with
  | bad => rw [q] at h; exact h
  | exc c p e' => rw [q] at h; exact h
  | ok t e' =>
    rw [q] at h
    cases t <;> first | exact h.elim | skip
    intro b2 H1 Z1 U O1 he1 r s
    obtain ⟨rfl, rfl⟩ := r
    exact hk _ _ H1 Z1 O1 he1 s h
theorem asB_and (e : Env) : asB (andF fa fb e) = (fa e).bind fun x e => match x with
    | .bl b => (if b = true then asB (fb e) else .ok false e)
    | _ => .bad := by
  unfold asB andF
  cases fa e with
  | bad => rfl
  | exc c p e' => rfl
  | ok t e' => cases t <;> first | rfl | (rename_i b; cases b <;> rfl)
theorem asB_or (e : Env) : asB (orF fa fb e) = (fa e).bind fun x e => match x with
    | .bl b => (if b = true then .ok true e else asB (fb e))
    | _ => .bad := by
  unfold asB orF
  cases fa e with
  | bad => rfl
  | exc c p e' => rfl
  | ok t e' => cases t <;> first | rfl | (rename_i b; cases b <;> rfl)
theorem if_bl (e : Env) : ifF fc fa fb e = (fc e).bind fun x e => match x with
    | .bl b => (if b = true then fa e else fb e)
    | _ => .bad := by
  unfold ifF
  cases fc e with
  | bad => rfl
  | exc c p e' => rfl
  | ok t e' => cases t <;> first | rfl | (rename_i b; cases b <;> rfl)
theorem w_and {rest : List Expr} (ha : PT X a (EB Y W fun e => asB (fa e))) (hb : PW X (.BoolOp .And (b :: rest) pos) (EB Y W fun e => asB (fb e))) : PW X (.BoolOp .And (a :: b :: rest) pos) (EB Y W fun e => asB (andF fa fb e)) := by
  refine PW.imp (pw_and ha hb) fun σ H Q ⟨e, Z, O, he, g, hd⟩ => ?_
  simp only [asB_and] at hd
  refine test_ (k := fun b e => if b = true then asB (fb e) else .ok false e) he g hd fun d e2 H2 Z2 O2 he2 s hd2 => ?_
  cases d with
  | true => exact on_end s he2 hd2
  | false => exact hd2 _ H2 Z2 [] O2 he2 ⟨rfl, rfl⟩ s
theorem w_or {rest : List Expr} (ha : PT X a (EB Y W fun e => asB (fa e))) (hb : PW X (.BoolOp .Or (b :: rest) pos) (EB Y W fun e => asB (fb e))) : PW X (.BoolOp .Or (a :: b :: rest) pos) (EB Y W fun e => asB (orF fa fb e)) := by
  refine PW.imp (pw_or ha hb) fun σ H Q ⟨e, Z, O, he, g, hd⟩ => ?_
  simp only [asB_or] at hd
  refine test_ (k := fun b e => if b = true then .ok true e else asB (fb e)) he g hd fun d e2 H2 Z2 O2 he2 s hd2 => ?_
  cases d with
  | false => exact on_end s he2 hd2
  | true => exact hd2 _ H2 Z2 [] O2 he2 ⟨rfl, rfl⟩ s
theorem e_ife (hc : PT X c (EB Y W fun e => asB (fc e))) (ha : PE X a (ET Y W fa)) (hb : PE X b (ET Y W fb)) : PE X (.IfExp c a b pos) (ET Y W (ifF fc fa fb)) := by
  refine PE.imp (pe_ifExp hc ha hb) fun σ H Q ⟨e, Z, O, he, g, hd⟩ => ?_
  simp only [if_bl] at hd
  refine test_ (k := fun b e => if b = true then fa e else fb e) he g hd fun d e2 H2 Z2 O2 he2 s hd2 => ?_
  cases d with
  | true => exact on_end s he2 hd2
  | false => exact on_end s he2 hd2
end
end Iv
set_option Elab.async false
set_option linter.all false
set_option maxRecDepth 100000
namespace Iv
open PySem PySem.Spec PyProof.Rows L2
mutual
/-- a tree as data -/
def dat : T → PyData
  | .non => .none
  | .bl b => .bool b
  | .int i => .int i
  | .str s => .str s
  | .tup ts => .tuple (dats ts)
  | .lst _ ts => .list (dats ts)
  | .dic _ _ _ => .none | .obj _ _ => .none | .clo _ _ => .none | .scr _ => .none
def dats : List T → List PyData
  | [] => []
  | t :: r => dat t :: dats r
end
section
variable {Y : Par} {σ : L2.St} {H : Hp} {W : WX} {Cl : Pr} {Z : ZP} {K : PySem.W.Frag}
theorem rd_sq {a : Addr} {vs : List V} (h : Rd H a (.lst vs)) : SqL K H a vs := .inl h
mutual
theorem dp_of : ∀ (t : T) {v : V} {U : List Addr}, sok t = true → Rep Cl H Z t v U → Dp K H v (dat t)
  | .non, _, _, _, h => by obtain ⟨rfl, _⟩ := non_of h; unfold dat; exact .non
  | .bl _, _, _, _, h => by obtain ⟨rfl, _⟩ := bl_of h; unfold dat; exact .bl _
  | .int _, _, _, _, h => by obtain ⟨rfl, _⟩ := int_of h; unfold dat; exact .int _
  | .str _, _, _, _, h => by obtain ⟨rfl, _⟩ := str_of h; unfold dat; exact .str _
  | .tup ts, _, _, k, h => by
    obtain ⟨a, vs, rfl, ha, r⟩ := tup_of h
    unfold sok at k; unfold dat
    exact .tup (sq_tup ha) (dps_of ts k r)
  | .lst o ts, _, _, k, h => by
    obtain ⟨a, vs, U', rfl, ha, r, _⟩ := lst_of h
    unfold sok at k; unfold dat
    exact .lst (rd_sq ha) (dps_of ts k r)
  | .dic _ _ _, _, _, k, _ => by unfold sok at k; cases k
  | .obj _ _, _, _, k, _ => by unfold sok at k; cases k
  | .clo _ _, _, _, k, _ => by unfold sok at k; cases k
  | .scr _, _, _, k, _ => by unfold sok at k; cases k
theorem dps_of : ∀ (ts : List T) {vs : List V} {U : List Addr}, soks ts = true → Reps Cl H Z ts vs U → DpAll K H vs (dats ts)
  | [], _, _, _, h => by unfold Reps at h; rw [h.1]; unfold dats; exact .nil
  | t :: ts, _, _, k, h => by
    unfold Reps at h
    obtain ⟨v, r, O1, O2, rfl, h1, h2, _⟩ := h
    unfold soks at k
    have k' := Bool.and_eq_true_iff.mp k
    unfold dats
    exact .cons (dp_of t k'.1 h1) (dps_of ts k'.2 h2)
end
mutual
theorem eqT_eqv : ∀ (a b : T), sok a = true → sok b = true → eqT a b = PyData.eqv (dat a) (dat b)
  | .non, b, _, kb => by cases b <;> first | rfl | (simp [eqT, dat, PyData.eqv]; done) | (unfold sok at kb; cases kb)
  | .bl x, b, _, kb => by cases b <;> first | rfl | (simp [eqT, dat, PyData.eqv]; done) | (unfold sok at kb; cases kb)
  | .int x, b, _, kb => by cases b <;> first | rfl | (simp [eqT, dat, PyData.eqv]; done) | (unfold sok at kb; cases kb)
  | .str x, b, _, kb => by cases b <;> first | rfl | (simp [eqT, dat, PyData.eqv]; done) | (unfold sok at kb; cases kb)
  | .tup xs, b, ka, kb => by
    cases b <;> first | (simp [eqT, dat, PyData.eqv]; done) | skip
    · rename_i ys
      unfold sok at ka kb
      simp only [eqT, dat, PyData.eqv]
      exact eqTs_eqv xs ys ka kb
    all_goals (unfold sok at kb; cases kb)
  | .lst o xs, b, ka, kb => by
    cases b <;> first | (simp [eqT, dat, PyData.eqv]; done) | skip
    · rename_i o2 ys
      unfold sok at ka kb
      simp only [eqT, dat, PyData.eqv]
      exact eqTs_eqv xs ys ka kb
    all_goals (unfold sok at kb; cases kb)
  | .dic _ _ _, _, k, _ => by unfold sok at k; cases k
  | .obj _ _, _, k, _ => by unfold sok at k; cases k
  | .clo _ _, _, k, _ => by unfold sok at k; cases k
  | .scr _, _, k, _ => by unfold sok at k; cases k
theorem eqTs_eqv : ∀ (a b : List T), soks a = true → soks b = true → eqTs a b = PyData.eqvAll (dats a) (dats b)
  | [], [], _, _ => by simp [eqTs, dats, PyData.eqvAll]
  | [], _ :: _, _, _ => by simp [eqTs, dats, PyData.eqvAll]
  | _ :: _, [], _, _ => by simp [eqTs, dats, PyData.eqvAll]
  | x :: xs, y :: ys, ka, kb => by
    unfold soks at ka kb
    have ka' := Bool.and_eq_true_iff.mp ka
    have kb' := Bool.and_eq_true_iff.mp kb
    simp only [eqTs, dats, PyData.eqvAll, eqT_eqv x y ka'.1 kb'.1, eqTs_eqv xs ys ka'.2 kb'.2]
end
mutual
theorem lay_of : ∀ (t : T), sok t = true → (dat t).canLay0 = true ∧ (dat t).depth ≤ dep t
  | .non, _ => by simp [dat, PyData.canLay0, PyData.depth]
  | .bl _, _ => by simp [dat, PyData.canLay0, PyData.depth]
  | .int _, _ => by simp [dat, PyData.canLay0, PyData.depth]
  | .str x, k => by unfold sok at k; refine ⟨k, ?_⟩; simp [dat, PyData.depth]
  | .tup ts, k => by
    unfold sok at k
    have := lays_of ts k
    simp only [dat, PyData.canLay0, PyData.depth, dep]
    exact ⟨this.1, by have := this.2; omega⟩
  | .lst o ts, k => by
    unfold sok at k
    have := lays_of ts k
    simp only [dat, PyData.canLay0, PyData.depth, dep]
    exact ⟨this.1, by have := this.2; omega⟩
  | .dic _ _ _, k => by unfold sok at k; cases k
  | .obj _ _, k => by unfold sok at k; cases k
  | .clo _ _, k => by unfold sok at k; cases k
  | .scr _, k => by unfold sok at k; cases k
theorem lays_of : ∀ (t : List T), soks t = true → PyData.canLayAll0 (dats t) = true ∧ PyData.depthAll (dats t) ≤ deps t
  | [], _ => by simp [dats, PyData.canLayAll0, PyData.depthAll]
  | t :: ts, k => by
    unfold soks at k
    have k' := Bool.and_eq_true_iff.mp k
    have h1 := lay_of t k'.1
    have h2 := lays_of ts k'.2
    simp only [dats, PyData.canLayAll0, PyData.depthAll, deps, h1.1, h2.1]
    exact ⟨rfl, by have := h1.2; have := h2.2; omega⟩
end
theorem shp_ok {t : T} (h : shp t = true) : sok t = true ∧ SeqAt.shaped (dat t) = true := by
  unfold shp at h
  have h' := Bool.and_eq_true_iff.mp h
  have hd := of_decide_eq_true h'.2
  have hl := lay_of t h'.1
  refine ⟨h'.1, ?_⟩
  unfold SeqAt.shaped
  rw [hl.1, Bool.true_and]
  exact decide_eq_true (by have := hl.2; omega)
theorem memT_any {a : T} (ka : sok a = true) : ∀ ts : List T, soks ts = true → memT a ts = (dats ts).any fun z => PyData.eqv z (dat a)
  | [], _ => rfl
  | t :: ts, k => by
    unfold soks at k
    have k' := Bool.and_eq_true_iff.mp k
    simp only [memT, dats, List.any_cons, eqT_eqv t a k'.1 ka, memT_any ka ts k'.2]

/-! ### comparing -/
def CmpOk (Y : Par) (o : COp) (r : R2) : Prop := ∀ (H : Hp) (x y : T) (d : Bool) (v u : V) (Z : ZP) (U1 U2 : List Addr) (Q : VK), Rep Y.Cl H Z x v U1 → Rep Y.Cl H Z y u U2 → cmp o x y = some d → Q (.bl d) H → r v u H Q
theorem ite_bool {c : Prop} [Decidable c] {a z : Bool} (h : (if c then some a else none) = some z) : c ∧ a = z := by
  split at h
  · exact ⟨‹_›, Option.some.inj h⟩
  · cases h
theorem cmp_eq : CmpOk Y .eq (rEqD K) := by
  intro H x y d v u Z U1 U2 Q rx ry h q
  unfold cmp at h
  obtain ⟨k, e⟩ := ite_bool h
  have k' := Bool.and_eq_true_iff.mp k
  obtain ⟨k1, s1⟩ := shp_ok k'.1
  obtain ⟨k2, s2⟩ := shp_ok k'.2
  refine ⟨dat x, dat y, dp_of x k1 rx, dp_of y k2 ry, s1, s2, ?_⟩
  rw [← eqT_eqv x y k1 k2, e]; exact q
theorem cmp_ne : CmpOk Y .ne (rNeD K) := by
  intro H x y d v u Z U1 U2 Q rx ry h q
  unfold cmp at h
  obtain ⟨k, e⟩ := ite_bool h
  have k' := Bool.and_eq_true_iff.mp k
  obtain ⟨k1, s1⟩ := shp_ok k'.1
  obtain ⟨k2, s2⟩ := shp_ok k'.2
  refine ⟨dat x, dat y, dp_of x k1 rx, dp_of y k2 ry, s1, s2, ?_⟩
  rw [← eqT_eqv x y k1 k2, e]; exact q
theorem cmp_lt : CmpOk Y .lt (rI0 fun i j => .bl (decide (i < j))) := by
  intro H x y d v u Z U1 U2 Q rx ry h q
  unfold cmp at h
  split at h <;> rename_i h1 <;> (try cases h1) <;> (try cases h)
  obtain ⟨rfl, _⟩ := int_of rx
  obtain ⟨rfl, _⟩ := int_of ry
  exact ⟨_, _, rfl, rfl, q⟩
theorem cmp_le : CmpOk Y .le (rI0 fun i j => .bl (decide (i ≤ j))) := by
  intro H x y d v u Z U1 U2 Q rx ry h q
  unfold cmp at h
  split at h <;> rename_i h1 <;> (try cases h1) <;> (try cases h)
  obtain ⟨rfl, _⟩ := int_of rx
  obtain ⟨rfl, _⟩ := int_of ry
  exact ⟨_, _, rfl, rfl, q⟩
theorem cmp_gt : CmpOk Y .gt (rI0 fun i j => .bl (decide (j < i))) := by
  intro H x y d v u Z U1 U2 Q rx ry h q
  unfold cmp at h
  split at h <;> rename_i h1 <;> (try cases h1) <;> (try cases h)
  obtain ⟨rfl, _⟩ := int_of rx
  obtain ⟨rfl, _⟩ := int_of ry
  exact ⟨_, _, rfl, rfl, q⟩
theorem cmp_ge : CmpOk Y .ge (rI0 fun i j => .bl (decide (j ≤ i))) := by
  intro H x y d v u Z U1 U2 Q rx ry h q
  unfold cmp at h
  split at h <;> rename_i h1 <;> (try cases h1) <;> (try cases h)
  obtain ⟨rfl, _⟩ := int_of rx
  obtain ⟨rfl, _⟩ := int_of ry
  exact ⟨_, _, rfl, rfl, q⟩
def rInA (K : PySem.W.Frag) : R2 := fun x y H Q => ∃ d ds, Dp K H x d ∧ (Dp K H y (.list ds) ∨ Dp K H y (.tuple ds)) ∧ SeqAt.shaped d = true ∧ SeqAt.shaped (.list ds) = true ∧ Q (.bl (ds.any fun z => PyData.eqv z d)) H
def rNotInA (K : PySem.W.Frag) : R2 := fun x y H Q => ∃ d ds, Dp K H x d ∧ (Dp K H y (.list ds) ∨ Dp K H y (.tuple ds)) ∧ SeqAt.shaped d = true ∧ SeqAt.shaped (.list ds) = true ∧ Q (.bl (!ds.any fun z => PyData.eqv z d)) H
theorem op_inA {X : Cx} (hu : X.A.units + 65 < cLine) : OpR X (compareOp .In) (rInA X.K) := by
  intro pins s σ H x y v u Q I rx ry h
  obtain ⟨d, ds, hd, he, sd, se, q⟩ := h
  obtain ⟨as, r1⟩ := Dp.reads I d x v hd rx
  rcases he with he | he
  · exact op_inD hu pins s σ H x y v u Q I rx ry ⟨d, ds, hd, he, sd, se, q⟩
  · obtain ⟨bs, r2⟩ := Dp.reads I (.tuple ds) y u he ry
    exact SeqAt.in_tuple_reads r2 r1 (SeqAt.canLay_of_shaped se) (SeqAt.canLay_of_shaped sd) (room_in_shaped sd hu) ⟨.bl _, H, I, rfl, q⟩
theorem op_notInA {X : Cx} (hu : X.A.units + 65 < cLine) : OpR X (compareOp .NotIn) (rNotInA X.K) := by
  intro pins s σ H x y v u Q I rx ry h
  obtain ⟨d, ds, hd, he, sd, se, q⟩ := h
  obtain ⟨as, r1⟩ := Dp.reads I d x v hd rx
  rcases he with he | he
  · exact op_notInD hu pins s σ H x y v u Q I rx ry ⟨d, ds, hd, he, sd, se, q⟩
  · obtain ⟨bs, r2⟩ := Dp.reads I (.tuple ds) y u he ry
    exact SeqAt.notIn_tuple_reads r2 r1 (SeqAt.canLay_of_shaped se) (SeqAt.canLay_of_shaped sd) (room_in_shaped sd hu) ⟨.bl _, H, I, rfl, q⟩
theorem in_core {x : T} {ts : List T} {o : Bool} {z : T} {U1 U2 : List Addr} {v u : V} (hz : z = .lst o ts ∨ z = .tup ts) (rx : Rep Y.Cl H Z x v U1) (ry : Rep Y.Cl H Z z u U2) (k : (shp x && shp (.lst false ts)) = true) :
    ∃ d ds, Dp K H v d ∧ (Dp K H u (.list ds) ∨ Dp K H u (.tuple ds)) ∧ SeqAt.shaped d = true ∧ SeqAt.shaped (.list ds) = true ∧ memT x ts = ds.any fun z => PyData.eqv z d := by
  have k' := Bool.and_eq_true_iff.mp k
  obtain ⟨k1, s1⟩ := shp_ok k'.1
  obtain ⟨k2, s2⟩ := shp_ok k'.2
  have e1 : dat (.lst o ts) = .list (dats ts) := by simp [dat]
  have e2 : dat (.lst false ts) = .list (dats ts) := by simp [dat]
  have e3 : dat (.tup ts) = .tuple (dats ts) := by simp [dat]
  have k3 : soks ts = true := by unfold sok at k2; exact k2
  refine ⟨dat x, dats ts, dp_of x k1 rx, ?_, s1, by rw [← e2]; exact s2, memT_any k1 ts k3⟩
  rcases hz with rfl | rfl
  · exact .inl (by rw [← e1]; exact dp_of (.lst o ts) (by unfold sok; exact k3) ry)
  · exact .inr (by rw [← e3]; exact dp_of (.tup ts) (by unfold sok; exact k3) ry)
theorem cmp_in : CmpOk Y .in_ (rInA K) := by
  intro H x y d v u Z U1 U2 Q rx ry h q
  cases y <;> simp only [cmp] at h <;> first | cases h; done | skip
  · obtain ⟨k, e⟩ := ite_bool h
    obtain ⟨d, ds, h1, h2, h3, h4, h5⟩ := in_core (K := K) (o := true) (.inr rfl) rx ry k
    exact ⟨d, ds, h1, h2, h3, h4, by rw [← h5, e]; exact q⟩
  · obtain ⟨k, e⟩ := ite_bool h
    obtain ⟨d, ds, h1, h2, h3, h4, h5⟩ := in_core (K := K) (.inl rfl) rx ry k
    exact ⟨d, ds, h1, h2, h3, h4, by rw [← h5, e]; exact q⟩
theorem cmp_notin : CmpOk Y .notin (rNotInA K) := by
  intro H x y d v u Z U1 U2 Q rx ry h q
  cases y <;> simp only [cmp] at h <;> first | cases h; done | skip
  · obtain ⟨k, e⟩ := ite_bool h
    obtain ⟨d, ds, h1, h2, h3, h4, h5⟩ := in_core (K := K) (o := true) (.inr rfl) rx ry k
    exact ⟨d, ds, h1, h2, h3, h4, by rw [← h5, e]; exact q⟩
  · obtain ⟨k, e⟩ := ite_bool h
    obtain ⟨d, ds, h1, h2, h3, h4, h5⟩ := in_core (K := K) (.inl rfl) rx ry k
    exact ⟨d, ds, h1, h2, h3, h4, by rw [← h5, e]; exact q⟩

variable {X : Cx} {a b c : Expr} {pos : Pos} {fa fb fc : Env → Iv.R T}
/-- a comparison by its rule -/
structure CRule (Y : Par) (X : Cx) (o : COp) (op : CmpOp) where
  r : R2
  ok : OpR X (compareOp op) r
  by_ : CmpOk Y o r
def opC : COp → CmpOp
  | .eq => .Eq | .ne => .NotEq | .lt => .Lt | .le => .LtE | .gt => .Gt | .ge => .GtE | .in_ => .In | .notin => .NotIn
def crule (Y : Par) (X : Cx) (hu : X.A.units + 65 < cLine) : (o : COp) → CRule Y X o (opC o)
  | .eq => ⟨_, op_eqD (by omega), cmp_eq⟩
  | .ne => ⟨_, op_neD (by omega), cmp_ne⟩
  | .lt => ⟨_, op_lt, cmp_lt⟩
  | .le => ⟨_, op_le, cmp_le⟩
  | .gt => ⟨_, op_gt, cmp_gt⟩
  | .ge => ⟨_, op_ge, cmp_ge⟩
  | .in_ => ⟨_, op_inA hu, cmp_in⟩
  | .notin => ⟨_, op_notInA hu, cmp_notin⟩
theorem boolR_of {o : Option Bool} {e : Env} {ok : T → Env → Prop} {ex : Nat → T → Env → Prop} (h : Den0 ok ex (boolR o e)) : ∃ b, o = some b ∧ ok (.bl b) e := by
  cases o with
  | none => exact h.elim
  | some b => exact ⟨b, rfl, h⟩
abbrev cmpF (o : COp) (fa fb : Env → Iv.R T) : Env → Iv.R T := fun e => (fa e).bind fun x e => (fb e).bind fun y e => boolR (cmp o x y) e
theorem cmp_tr {o : COp} {op : CmpOp} (R : CRule Y X o op) {σ : L2.St} {H : Hp} {Q : VK} (h : ET Y W (cmpF o fa fb) σ H Q) : tOp R.r (ET Y W fa) (ET Y W fb) σ H Q := by
  refine two_ h keepT fun O Z x y e2 v u H2 Z2 U1 U2 O2 g he r1 r2 s hd => ?_
  obtain ⟨z, hz, hd⟩ := boolR_of hd
  exact R.by_ H2 x y z v u Z2 U1 U2 Q r1 r2 hz (fin_bl hd he s)
theorem e_cmp {o : COp} {op : CmpOp} (R : CRule Y X o op) (hm : behindInMarks op b = false) (ha : PE X a (ET Y W fa)) (hb : PE X b (ET Y W fb)) : PE X (.Compare a [op] [b] pos) (ET Y W (cmpF o fa fb)) :=
  PE.imp (pe_cmpR R.ok ha hb hm) fun σ H Q h => cmp_tr R h
/-- a reading as a test, from its reading as a value -/
theorem test_of {f : Env → Iv.R T} {t : TE} (h : ∀ σ H Q, ET Y W f σ H Q → t σ H Q) : ∀ σ H Q, EB Y W (fun e => asB (f e)) σ H Q → tTest t σ H Q := fun σ H Q ⟨e, Z, O, he, g, hd⟩ => by
  refine h σ H _ ⟨e, Z, O, he, g, ?_⟩
  refine den_imp (asB_cases hd) (fun t e2 ⟨b, et, hk⟩ v H1 Z1 U O1 he1 r s => ?_) fun _ _ _ x => x
  subst et
  obtain ⟨rfl, rfl⟩ := bl_of r
  exact ⟨b, rfl, hk b H1 Z1 [] O1 he1 ⟨rfl, rfl⟩ s⟩
theorem t_cmp {o : COp} {op : CmpOp} (R : CRule Y X o op) (hm : behindInMarks op b = false) (ha : PE X a (ET Y W fa)) (hb : PE X b (ET Y W fb)) : PT X (.Compare a [op] [b] pos) (EB Y W fun e => asB (cmpF o fa fb e)) :=
  PT.imp (pt_cmpR R.ok ha hb hm) (test_of fun σ H Q h => cmp_tr R h)
/-- the name is read ahead, looked at behind -/
abbrev cmpLF (o : COp) (i : Nat) (fb : Env → Iv.R T) : Env → Iv.R T := fun e => has e i ((fb e).bind fun y e => (match gt e i with
    | some t => boolR (cmp o t y) e
    | none => .bad))
abbrev cmpRF (o : COp) (fa : Env → Iv.R T) (i : Nat) : Env → Iv.R T := fun e => (fa e).bind fun y e => (match gt e i with
    | some t => boolR (cmp o y t) e
    | none => .bad)
/-- the guard -/
theorem has_ {α : Type} {e : Env} {i : Nat} {r : Iv.R α} {ok : α → Env → Prop} {ex : Nat → T → Env → Prop} (h : Den0 ok ex (has e i r)) : (∃ t, gt e i = some t) ∧ Den0 ok ex r := by
  unfold has at h
  cases q : gt e i with
  | none => rw [q] at h; exact h.elim
  | some t => rw [q] at h; exact ⟨⟨t, rfl⟩, h⟩
theorem slot_of {e : Env} {i : Nat} {t : T} {O : List Addr} {Z : ZP} (he : EnvR Cl H Z e σ O) (q : gt e i = some t) : ∃ v, σ[i]? = some (some v) := by
  obtain ⟨v, Oi, Or, h1, _⟩ := env_take he q
  exact ⟨v, h1⟩
/-- a slot that is read ahead: what it holds behind -/
theorem slot_at {e : Env} {i : Nat} {t : T} {O : List Addr} {Z : ZP} {v : V} (hv : σ[i]? = some (some v)) (he : EnvR Cl H Z e σ O) (q : gt e i = some t) : ∃ Oi Or, Rep Cl H Z t v Oi ∧ O.Perm (Oi ++ Or) ∧ EnvR Cl H Z (e.set i none) σ Or := by
  obtain ⟨w, Oi, Or, h1, h2, h3, h4⟩ := env_take he q
  rw [hv] at h1
  cases h1
  exact ⟨Oi, Or, h2, h3, h4⟩
theorem cmpL_tr {o : COp} {op : CmpOp} {i : Nat} (R : CRule Y X o op) {σ : L2.St} {H : Hp} {Q : VK} (h : ET Y W (cmpLF o i fb) σ H Q) : tOp R.r (tVar i) (ET Y W fb) σ H Q := by
  obtain ⟨e, Z, O, he, g, hd⟩ := h
  obtain ⟨⟨t, q⟩, hd⟩ := has_ hd
  obtain ⟨v, hv⟩ := slot_of he q
  refine ⟨v, hv, ?_⟩
  refine one_ (R2 := RT Y) (k := fun y e => match gt e i with
    | some t => boolR (cmp o t y) e
    | none => .bad) ⟨e, Z, O, he, g, hd⟩ fun O Z y e2 u H2 Z2 U2 O2 g he2 r s hd => ?_
  cases q2 : gt e2 i with
  | none => rw [q2] at hd; exact hd.elim
  | some t =>
    rw [q2] at hd
    obtain ⟨z, hz, hd⟩ := boolR_of hd
    obtain ⟨Oi, Or, rt, _, _⟩ := slot_at hv he2 q2
    exact R.by_ H2 t y z v u Z2 Oi U2 Q rt r hz (fin_bl hd he2 s)
theorem cmpR_tr {o : COp} {op : CmpOp} {i : Nat} (R : CRule Y X o op) {σ : L2.St} {H : Hp} {Q : VK} (h : ET Y W (cmpRF o fa i) σ H Q) : tOp R.r (ET Y W fa) (tVar i) σ H Q := by
  refine one_ h fun O Z y e2 u H2 Z2 U2 O2 g he2 r s hd => ?_
  cases q2 : gt e2 i with
  | none => rw [q2] at hd; exact hd.elim
  | some t =>
    rw [q2] at hd
    obtain ⟨z, hz, hd⟩ := boolR_of hd
    exact at_var he2 q2 fun v Oi Or p rt => R.by_ H2 y t z u v Z2 U2 Oi Q r rt hz (fin_bl hd he2 s)
theorem e_cmpL {o : COp} {op : CmpOp} {i : Nat} (R : CRule Y X o op) (hm : behindInMarks op b = false) (ha : PE X a (tVar i)) (hb : PE X b (ET Y W fb)) : PE X (.Compare a [op] [b] pos) (ET Y W (cmpLF o i fb)) :=
  PE.imp (pe_cmpR R.ok ha hb hm) fun σ H Q h => cmpL_tr R h
theorem t_cmpL {o : COp} {op : CmpOp} {i : Nat} (R : CRule Y X o op) (hm : behindInMarks op b = false) (ha : PE X a (tVar i)) (hb : PE X b (ET Y W fb)) : PT X (.Compare a [op] [b] pos) (EB Y W fun e => asB (cmpLF o i fb e)) :=
  PT.imp (pt_cmpR R.ok ha hb hm) (test_of fun σ H Q h => cmpL_tr R h)
theorem e_cmpR {o : COp} {op : CmpOp} {i : Nat} (R : CRule Y X o op) (hm : behindInMarks op b = false) (ha : PE X a (ET Y W fa)) (hb : PE X b (tVar i)) : PE X (.Compare a [op] [b] pos) (ET Y W (cmpRF o fa i)) :=
  PE.imp (pe_cmpR R.ok ha hb hm) fun σ H Q h => cmpR_tr R h
theorem t_cmpR {o : COp} {op : CmpOp} {i : Nat} (R : CRule Y X o op) (hm : behindInMarks op b = false) (ha : PE X a (ET Y W fa)) (hb : PE X b (tVar i)) : PT X (.Compare a [op] [b] pos) (EB Y W fun e => asB (cmpRF o fa i e)) :=
  PT.imp (pt_cmpR R.ok ha hb hm) (test_of fun σ H Q h => cmpR_tr R h)
/-- a o b p c -/
abbrev chainF (o p : COp) (fa fb fc : Env → Iv.R T) : Env → Iv.R T := fun e => (fa e).bind fun x e => (fb e).bind fun y e => (match cmp o x y with
    | some true => (fc e).bind fun z e => boolR (cmp p y z) e
    | some false => .ok (.bl false) e
    | none => .bad)
theorem chain_tr {o p : COp} {op op' : CmpOp} (R : CRule Y X o op) (R' : CRule Y X p op') {σ : L2.St} {H : Hp} {Q : VK} (h : ET Y W (chainF o p fa fb fc) σ H Q) : tChain R.r R'.r (ET Y W fa) (ET Y W fb) (ET Y W fc) σ H Q := by
  refine two_ h keepT fun O Z x y e2 v u H2 Z2 U1 U2 O2 g he r1 r2 s hd => ?_
  cases q : cmp o x y with
  | none => rw [q] at hd; exact hd.elim
  | some d =>
    rw [q] at hd
    refine R.by_ H2 x y d v u Z2 U1 U2 _ r1 r2 q ⟨d, rfl, ?_⟩
    cases d with
    | false => exact fin_bl hd he s
    | true =>
      refine on_ s he hd fun z e3 w' H3 Z3 U3 O3 he3 r3 s3 s4 k hd3 => ?_
      obtain ⟨d2, hz, hd3⟩ := boolR_of hd3
      have r2' := Rep.keep y r2 (k.sub fun a ha => List.mem_append_right _ ha)
      exact R'.by_ H3 y z d2 u w' Z3 U2 U3 Q r2' r3 hz (fin_bl hd3 he3 s4)
theorem e_chain {o p : COp} {op op' : CmpOp} (R : CRule Y X o op) (R' : CRule Y X p op') (hm : lastMarks [op, op'] [b, c] = false) (ha : PE X a (ET Y W fa)) (hb : PE X b (ET Y W fb)) (hc : PE X c (ET Y W fc)) : PE X (.Compare a [op, op'] [b, c] pos) (ET Y W (chainF o p fa fb fc)) :=
  PE.imp (pe_chain R.ok R'.ok ha hb hc hm) fun σ H Q h => chain_tr R R' h
theorem t_chain {o p : COp} {op op' : CmpOp} (R : CRule Y X o op) (R' : CRule Y X p op') (hm : lastMarks [op, op'] [b, c] = false) (ha : PE X a (ET Y W fa)) (hb : PE X b (ET Y W fb)) (hc : PE X c (ET Y W fc)) : PT X (.Compare a [op, op'] [b, c] pos) (EB Y W fun e => asB (chainF o p fa fb fc e)) :=
  PT.imp (pt_chain R.ok R'.ok ha hb hc hm) (test_of fun σ H Q h => chain_tr R R' h)

/-! ### is -/
theorem rep_non_iff {Cl : Pr} {t : T} {v : V} {U : List Addr} (h : Rep Cl H Z t v U) : decide (v = .non) = isNon t := by
  cases t with
  | non => obtain ⟨rfl, _⟩ := non_of h; rfl
  | bl b => obtain ⟨rfl, _⟩ := bl_of h; rfl
  | int b => obtain ⟨rfl, _⟩ := int_of h; rfl
  | str b => obtain ⟨rfl, _⟩ := str_of h; rfl
  | tup b => obtain ⟨_, _, rfl, _⟩ := tup_of h; rfl
  | lst o b => obtain ⟨_, _, _, rfl, _⟩ := lst_of h; rfl
  | obj c t => unfold Rep at h; obtain ⟨_, _, _, rfl, _⟩ := h; rfl
  | dic _ _ _ => unfold Rep at h; exact h.elim
  | clo _ _ => unfold Rep at h; exact h.elim
  | scr _ => unfold Rep at h; obtain ⟨_, rfl, _⟩ := h; rfl
/-- is None, is not None: as the kit reads them -/
def tIsNG (ng : Bool) (ta : TE) : TE := fun σ H Q => ta σ H fun x H1 => Q (.bl (decide (x = .non) != ng)) H1
theorem pc_isNG {ng : Bool} {ta : TE} {j p'} (ha : PE X a ta) : PC X (if ng then .IsNot else .Is) a (.Constant .none j p') (tIsNG ng ta) := by
  cases ng with
  | false => exact ⟨fun pins s σ H Q I h => (pc_isN ha).run pins s σ H Q I (by unfold tIsNG at h; unfold tIsN; simpa using h)⟩
  | true => exact ⟨fun pins s σ H Q I h => (pc_notN ha).run pins s σ H Q I (by unfold tIsNG at h; unfold tNotN; simpa using h)⟩
theorem isnb {ng : Bool} {j p'} : behindInMarks (if ng then CmpOp.IsNot else CmpOp.Is) (.Constant .none j p') = false := by
  cases ng <;> exact nobehind _ (by decide) (by decide)
abbrev isnF (ng : Bool) (fa : Env → Iv.R T) : Env → Iv.R T := fun e => (fa e).bind fun x e => .ok (.bl (isNon x != ng)) e
abbrev isnvF (ng : Bool) (i : Nat) : Env → Iv.R T := fun e => (match gt e i with
    | some t => .ok (.bl (isNon t != ng)) e
    | none => .bad)
theorem isn_tr {ng : Bool} {σ : L2.St} {H : Hp} {Q : VK} (h : ET Y W (isnF ng fa) σ H Q) : tIsNG ng (ET Y W fa) σ H Q := by
  refine one_ h fun O Z y e2 u H2 Z2 U2 O2 g he2 r s hd => ?_
  rw [rep_non_iff r]
  exact fin_bl hd he2 s
theorem isnv_tr {ng : Bool} {i : Nat} {σ : L2.St} {H : Hp} {Q : VK} (h : ET Y W (isnvF ng i) σ H Q) : tIsNG ng (tVar i) σ H Q := by
  obtain ⟨e, Z, O, he, g, hd⟩ := h
  have hd : Den Y (RT Y) W σ O H Z Q (isnvF ng i e) := hd
  unfold isnvF at hd
  cases q2 : gt e i with
  | none => rw [q2] at hd; exact hd.elim
  | some t =>
    rw [q2] at hd
    refine at_var he q2 fun v Oi Or p rt => ?_
    rw [rep_non_iff rt]
    exact fin_bl hd he (Step.refl g)
theorem e_isn {ng : Bool} {j p'} (ha : PE X a (ET Y W fa)) : PE X (.Compare a [if ng then .IsNot else .Is] [.Constant .none j p'] pos) (ET Y W (isnF ng fa)) := PE.imp (pe_cmp (pc_isNG ha) isnb) fun σ H Q h => isn_tr h
theorem t_isn {ng : Bool} {j p'} (ha : PE X a (ET Y W fa)) : PT X (.Compare a [if ng then .IsNot else .Is] [.Constant .none j p'] pos) (EB Y W fun e => asB (isnF ng fa e)) := PT.imp (pt_cmp (pc_isNG ha) isnb) (test_of fun σ H Q h => isn_tr h)
theorem e_isnv {ng : Bool} {i : Nat} {j p'} (ha : PE X a (tVar i)) : PE X (.Compare a [if ng then .IsNot else .Is] [.Constant .none j p'] pos) (ET Y W (isnvF ng i)) := PE.imp (pe_cmp (pc_isNG ha) isnb) fun σ H Q h => isnv_tr h
theorem t_isnv {ng : Bool} {i : Nat} {j p'} (ha : PE X a (tVar i)) : PT X (.Compare a [if ng then .IsNot else .Is] [.Constant .none j p'] pos) (EB Y W fun e => asB (isnvF ng i e)) := PT.imp (pt_cmp (pc_isNG ha) isnb) (test_of fun σ H Q h => isnv_tr h)
/-- is True, is not True .. -/
abbrev isbF (ng : Bool) (fa : Env → Iv.R T) (d : Bool) : Env → Iv.R T := fun e => (fa e).bind fun x e => (match x with
    | .bl c => .ok (.bl ((c == d) != ng)) e
    | _ => .bad)
def rIsBG (ng : Bool) : R2 := fun x y H Q => ∃ a b : Bool, x = .bl a ∧ y = .bl b ∧ Q (.bl ((a == b) != ng)) H
theorem op_isBG {ng : Bool} : OpR X (compareOp (if ng then .IsNot else .Is)) (rIsBG ng) := by
  intro pins s σ H x y v u Q I rx ry ⟨a, b, h1, h2, q⟩
  cases ng with
  | false => exact op_isBl pins s σ H x y v u Q I rx ry ⟨a, b, h1, h2, by simpa [Bool.beq_eq_decide_eq] using q⟩
  | true => exact op_notBl pins s σ H x y v u Q I rx ry ⟨a, b, h1, h2, by simpa [Bool.beq_eq_decide_eq] using q⟩
theorem isb_tr {ng d : Bool} {σ : L2.St} {H : Hp} {Q : VK} (h : ET Y W (isbF ng fa d) σ H Q) : tOp (rIsBG ng) (ET Y W fa) (tC (.bl d)) σ H Q := by
  refine one_ h fun O Z y e2 u H2 Z2 U2 O2 g he2 r s hd => ?_
  cases y <;> first | exact hd.elim | skip
  obtain ⟨rfl, rfl⟩ := bl_of r
  exact ⟨_, _, rfl, rfl, fin_bl hd he2 s⟩
theorem isbm {ng d : Bool} {j p'} : behindInMarks (if ng then CmpOp.IsNot else CmpOp.Is) (.Constant (.bool d) j p') = false := by
  cases ng <;> exact nobehind _ (by decide) (by decide)
theorem e_isb {ng d : Bool} {j p'} (ha : PE X a (ET Y W fa)) : PE X (.Compare a [if ng then .IsNot else .Is] [.Constant (.bool d) j p'] pos) (ET Y W (isbF ng fa d)) := PE.imp (pe_cmpR op_isBG ha pe_bl isbm) fun σ H Q h => isb_tr h
theorem t_isb {ng d : Bool} {j p'} (ha : PE X a (ET Y W fa)) : PT X (.Compare a [if ng then .IsNot else .Is] [.Constant (.bool d) j p'] pos) (EB Y W fun e => asB (isbF ng fa d e)) := PT.imp (pt_cmpR op_isBG ha pe_bl isbm) (test_of fun σ H Q h => isb_tr h)
end
end Iv
set_option Elab.async false
set_option linter.all false
set_option maxRecDepth 100000
namespace Iv
open PySem PySem.Spec PyProof.Rows L2
section
variable {Y : Par} {σ : L2.St} {H : Hp} {W : WX} {Cl : Pr} {Z : ZP} {K : PySem.W.Frag}
variable {X : Cx} {a b c : Expr} {es : List Expr} {pos : Pos} {fa fb fc : Env → Iv.R T} {fs : Env → Iv.R (List T)}
/-! ### subscripts -/
/-- a part of a tree that owns nothing of its own -/
theorem atI_some {α : Type} {xs : List α} {i : Int} {v : α} (h : atI xs i = some v) : ∃ j, ixN xs.length i = some j ∧ xs[j]? = some v := by
  unfold atI at h
  cases e : ixN xs.length i with
  | none => rw [e] at h; cases h
  | some j => rw [e] at h; exact ⟨j, rfl, h⟩
theorem items_at {t : T} {k : Int} {u : T} {v : V} {U : List Addr} (h : at_ t (.int k) = some u) (r : Rep Cl H Z t v U) :
    ∃ p xs w Ui, v = .ref p ∧ (SqL K H p xs ∨ SqT K H p xs) ∧ atI xs k = some w ∧ Rep Cl H Z u w Ui ∧ (∀ a ∈ Ui, a ∈ U) := by
  cases t <;> simp only [at_] at h <;> first | cases h; done | skip
  · rename_i ts
    obtain ⟨p, xs, rfl, hp, r1⟩ := tup_of r
    obtain ⟨j, h1, h2⟩ := atI_some h
    obtain ⟨w, O1, Oi, O2, e1, e2, e3, _, _⟩ := r1.at_ h2
    refine ⟨p, xs, w, Oi, rfl, .inr (sq_tup hp), ?_, e2, fun a ha => by rw [e3]; simp [ha]⟩
    unfold atI; rw [← r1.len, h1]; exact e1
  · rename_i o ts
    obtain ⟨p, xs, U', rfl, hp, r1, k1⟩ := lst_of r
    obtain ⟨j, h1, h2⟩ := atI_some h
    obtain ⟨w, O1, Oi, O2, e1, e2, e3, _, _⟩ := r1.at_ h2
    refine ⟨p, xs, w, Oi, rfl, .inl (rd_sq hp), ?_, e2, fun a ha => ?_⟩
    · unfold atI; rw [← r1.len, h1]; exact e1
    · have : a ∈ U' := by rw [e3]; simp [ha]
      rcases k1 with ⟨_, _, q, _⟩ | ⟨_, _, q⟩
      · rw [q] at this; cases this
      · rw [q]; exact List.mem_cons_of_mem _ this
theorem at_int {t i u : T} (h : at_ t i = some u) : ∃ k, i = .int k := by
  cases t <;> cases i <;> simp only [at_] at h <;> first | exact ⟨_, rfl⟩ | cases h
theorem rIx_of {p : Addr} {xs : List V} {k : Int} {w : V} {Q : VK} (h : SqL K H p xs ∨ SqT K H p xs) (e : atI xs k = some w) (q : Q w H) : rIx K (.ref p) (.int k) H Q := by
  rcases h with h | h
  · exact .inl ⟨p, xs, k, w, rfl, rfl, h, e, q⟩
  · exact .inr (.inl ⟨p, xs, k, w, rfl, rfl, h, e, q⟩)
theorem fz_of {t : T} {e : Env} {ok : T → Env → Prop} {ex : Nat → T → Env → Prop} (h : Den0 ok ex (fz t e)) : isF t = true ∧ ok t e := by
  unfold fz at h
  split at h
  · exact ⟨‹_›, h⟩
  · exact h.elim
abbrev ixF (i : Nat) (fb : Env → Iv.R T) : Env → Iv.R T := fun e => has e i ((fb e).bind fun k e => (match gt e i with
    | some t => (match at_ t k with
      | some u => fz u e
      | none => .bad)
    | none => .bad))
theorem e_ix {i : Nat} (hs : PlainIx b) (ha : PE X a (tVar i)) (hb : PE X b (ET Y W fb)) : PE X (.Subscript a b pos) (ET Y W (ixF i fb)) := by
  refine PE.imp (pe_ix ix_seq ha hb hs) fun σ H Q h => ?_
  obtain ⟨e, Z, O, he, g, hd⟩ := h
  obtain ⟨⟨t, q⟩, hd⟩ := has_ hd
  obtain ⟨v, hv⟩ := slot_of he q
  refine ⟨v, hv, ?_⟩
  refine one_ (R2 := RT Y) (k := fun k e => match gt e i with
    | some t => (match at_ t k with
      | some u => fz u e
      | none => .bad)
    | none => .bad) ⟨e, Z, O, he, g, hd⟩ fun O Z k e2 u H2 Z2 U2 O2 g he2 r s hd => ?_
  cases q2 : gt e2 i with
  | none => rw [q2] at hd; exact hd.elim
  | some t =>
    rw [q2] at hd
    obtain ⟨Oi, Or, rt, _, _⟩ := slot_at hv he2 q2
    cases q3 : at_ t k with
    | none => simp only [q3] at hd; exact hd.elim
    | some z =>
      simp only [q3] at hd
      obtain ⟨f, hd⟩ := fz_of hd
      obtain ⟨k, rfl⟩ := at_int q3
      obtain ⟨rfl, rfl⟩ := int_of r
      obtain ⟨p, xs, w, Ui, rfl, h1, h2, h3, h4⟩ := items_at (K := X.K) q3 rt
      have e0 := Rep.nil_of z f h3
      subst e0
      exact rIx_of h1 h2 (fin_v hd he2 s h3)
abbrev idxF (fa fb : Env → Iv.R T) : Env → Iv.R T := fun e => (fa e).bind fun t e => (fb e).bind fun k e => (match at_ t k with
    | some u => fz u e
    | none => .bad)
theorem e_idx (hs : PlainIx b) (ha : PE X a (ET Y W fa)) (hb : PE X b (ET Y W fb)) : PE X (.Subscript a b pos) (ET Y W (idxF fa fb)) := by
  refine PE.imp (pe_ix ix_seq ha hb hs) fun σ H Q h => ?_
  refine two_ h keepT fun O Z t k e2 v u H2 Z2 U1 U2 O2 g he r1 r2 s hd => ?_
  cases q3 : at_ t k with
  | none => simp only [q3] at hd; exact hd.elim
  | some z =>
    simp only [q3] at hd
    obtain ⟨f, hd⟩ := fz_of hd
    obtain ⟨k, rfl⟩ := at_int q3
    obtain ⟨rfl, rfl⟩ := int_of r2
    obtain ⟨p, xs, w, Ui, rfl, h1, h2, h3, h4⟩ := items_at (K := X.K) q3 r1
    have e0 := Rep.nil_of z f h3
    subst e0
    exact rIx_of h1 h2 (fin_v hd he s h3)
/-- an index that changes nothing -/
def tPv (Y : Par) (f : Env → Option Int) : TE := fun σ H Q => ∃ e Z O l, EnvR Y.Cl H Z e σ O ∧ f e = some l ∧ Q (.int l) H
theorem pv_var {i : Nat} {x : Str} (h : PE X (.Name x pos) (tVar i)) : PE X (.Name x pos) (tPv Y (pv (.var i))) := by
  refine PE.imp h fun σ H Q ⟨e, Z, O, l, he, hl, q⟩ => ?_
  unfold pv at hl
  cases q2 : gt e i with
  | none => rw [q2] at hl; cases hl
  | some t =>
    rw [q2] at hl
    cases t <;> first | cases hl; done | skip
    cases hl
    exact at_var he q2 fun v Oi Or p rt => by obtain ⟨rfl, _⟩ := int_of rt; exact q
theorem pv_int {i : Int} {j} : PE X (.Constant (.int i) j pos) (tPv Y (pv (.int i))) := PE.imp pe_int fun σ H Q ⟨e, Z, O, l, he, hl, q⟩ => by unfold pv at hl; cases hl; exact q
theorem pv_add {x y : E} (ha : PE X a (tPv Y (pv x))) (hb : PE X b (tPv Y (pv y))) : PE X (.BinOp a .Add b pos) (tPv Y (pv (.bin .add x y))) := by
  refine PE.imp (pe_op op_add ha hb) fun σ H Q ⟨e, Z, O, l, he, hl, q⟩ => ?_
  unfold pv at hl
  cases q1 : pv x e with
  | none => rw [q1] at hl; cases hl
  | some i =>
    cases q2 : pv y e with
    | none => rw [q1, q2] at hl; cases hl
    | some j =>
      rw [q1, q2] at hl
      cases hl
      exact ⟨e, Z, O, i, he, q1, e, Z, O, j, he, q2, i, j, rfl, rfl, q⟩
theorem pv_sub {x y : E} (ha : PE X a (tPv Y (pv x))) (hb : PE X b (tPv Y (pv y))) : PE X (.BinOp a .Sub b pos) (tPv Y (pv (.bin .sub x y))) := by
  refine PE.imp (pe_op op_sub ha hb) fun σ H Q ⟨e, Z, O, l, he, hl, q⟩ => ?_
  unfold pv at hl
  cases q1 : pv x e with
  | none => rw [q1] at hl; cases hl
  | some i =>
    cases q2 : pv y e with
    | none => rw [q1, q2] at hl; cases hl
    | some j =>
      rw [q1, q2] at hl
      cases hl
      exact ⟨e, Z, O, i, he, q1, e, Z, O, j, he, q2, i, j, rfl, rfl, q⟩
theorem pv_neg {x : E} (ha : PE X a (tPv Y (pv x))) : PE X (.UnaryOp .USub a pos) (tPv Y (pv (.neg x))) := by
  refine PE.imp (pe_un un_neg ha) fun σ H Q ⟨e, Z, O, l, he, hl, q⟩ => ?_
  unfold pv at hl
  cases q1 : pv x e with
  | none => rw [q1] at hl; cases hl
  | some i => rw [q1] at hl; cases hl; exact ⟨e, Z, O, i, he, q1, i, rfl, q⟩
/-- x[i][j] -/
abbrev ix2F (i : Nat) (fb : Env → Iv.R T) (j : E) : Env → Iv.R T := fun e => has e i ((fb e).bind fun k e => (match gt e i, pv j e with
    | some t, some l => (match at_ t k with
      | some u => (match at_ u (.int l) with
        | some v => fz v e
        | none => .bad)
      | none => .bad)
    | _, _ => .bad))
theorem e_ix2 {i : Nat} {j : E} {pos2 : Pos} (hs : PlainIx b) (hs2 : PlainIx c) (ha : PE X a (tVar i)) (hb : PE X b (ET Y W fb)) (hc : PE X c (tPv Y (pv j))) : PE X (.Subscript (.Subscript a b pos) c pos2) (ET Y W (ix2F i fb j)) := by
  refine PE.imp (pe_ix ix_seq (pe_ix ix_seq ha hb hs) hc hs2) fun σ H Q h => ?_
  obtain ⟨e, Z, O, he, g, hd⟩ := h
  obtain ⟨⟨t, q⟩, hd⟩ := has_ hd
  obtain ⟨v, hv⟩ := slot_of he q
  refine ⟨v, hv, ?_⟩
  refine one_ (R2 := RT Y) (k := fun k e => match gt e i, pv j e with
    | some t, some l => (match at_ t k with
      | some u => (match at_ u (.int l) with
        | some v => fz v e
        | none => .bad)
      | none => .bad)
    | _, _ => .bad) ⟨e, Z, O, he, g, hd⟩ fun O Z k e2 u H2 Z2 U2 O2 g he2 r s hd => ?_
  cases q2 : gt e2 i with
  | none => rw [q2] at hd; exact hd.elim
  | some t =>
    cases ql : pv j e2 with
    | none => rw [q2, ql] at hd; exact hd.elim
    | some l =>
      rw [q2, ql] at hd
      obtain ⟨Oi, Or, rt, _, _⟩ := slot_at hv he2 q2
      cases q3 : at_ t k with
      | none => simp only [q3] at hd; exact hd.elim
      | some z =>
        simp only [q3] at hd
        cases q6 : at_ z (.int l) with
        | none => simp only [q6] at hd; exact hd.elim
        | some y =>
          simp only [q6] at hd
          obtain ⟨f, hd⟩ := fz_of hd
          obtain ⟨k, rfl⟩ := at_int q3
          obtain ⟨rfl, rfl⟩ := int_of r
          obtain ⟨p, xs, w, Ui, rfl, h1, h2, h3, h4⟩ := items_at (K := X.K) q3 rt
          refine rIx_of h1 h2 ⟨e2, Z2, O2, l, he2, ql, ?_⟩
          obtain ⟨p', xs', w', Ui', rfl, g1, g2, g3, g4⟩ := items_at (K := X.K) q6 h3
          have e0 := Rep.nil_of y f g3
          subst e0
          exact rIx_of g1 g2 (fin_v hd he2 s g3)

/-! ### slices -/
abbrev RO : Rl (Option Int) (Option Int) := fun _ _ a b U => a = b ∧ U = []
abbrev EO (Y : Par) (W : WX) (f : Env → Iv.R (Option Int)) : TO := tE Y RO W f
theorem PO.imp {x : Option Expr} {t t' : TO} (h : PO X x t) (i : ∀ σ H Q, t' σ H Q → t σ H Q) : PO X x t' := ⟨fun pins s σ H Q I hw => h.run pins s σ H Q I (i _ _ _ hw)⟩
theorem o_none : PO X none (EO Y W fun e => .ok none e) := PO.imp po_none fun σ H Q ⟨e, Z, O, he, g, hd⟩ => hd none H Z [] O he ⟨rfl, rfl⟩ (Step.refl g)
theorem o_some (ha : PE X a (ET Y W fa)) : PO X (some a) (EO Y W fun e => (fa e).bind fun x e => (match x with
    | .int i => .ok (some i) e
    | _ => .bad)) := by
  refine PO.imp (po_some ha) fun σ H Q h => ?_
  refine one_ h fun O Z y e2 u H2 Z2 U2 O2 g he2 r s hd => ?_
  cases y <;> first | exact hd.elim | skip
  obtain ⟨rfl, rfl⟩ := int_of r
  exact ⟨_, rfl, hd _ H2 Z2 [] O2 he2 ⟨rfl, rfl⟩ s⟩
theorem Reps.drop {ts : List T} {vs : List V} (h : Reps Cl H Z ts vs []) (n : Nat) : Reps Cl H Z (ts.drop n) (vs.drop n) [] := by
  induction n generalizing ts vs with
  | zero => simpa using h
  | succ n ih =>
    cases ts with
    | nil => unfold Reps at h; rw [h.1]; simpa using Reps.nil
    | cons t ts =>
      unfold Reps at h
      obtain ⟨v, r, O1, O2, rfl, h1, h2, h3⟩ := h
      have h3' := List.append_eq_nil_iff.mp h3.symm
      rw [h3'.2] at h2
      simpa using ih h2
theorem Reps.take {ts : List T} {vs : List V} (h : Reps Cl H Z ts vs []) (n : Nat) : Reps Cl H Z (ts.take n) (vs.take n) [] := by
  induction n generalizing ts vs with
  | zero => simpa using Reps.nil
  | succ n ih =>
    cases ts with
    | nil => unfold Reps at h; rw [h.1]; simpa using Reps.nil
    | cons t ts =>
      unfold Reps at h
      obtain ⟨v, r, O1, O2, rfl, h1, h2, h3⟩ := h
      have h3' := List.append_eq_nil_iff.mp h3.symm
      rw [h3'.2] at h2
      rw [h3'.1] at h1
      rw [List.take_succ_cons, List.take_succ_cons]
      unfold Reps
      exact ⟨v, _, [], [], rfl, h1, ih h2, rfl⟩
theorem Reps.cut {ts : List T} {vs : List V} (h : Reps Cl H Z ts vs []) (lo hi : Option Int) : Reps Cl H Z (cutT ts lo hi) (cutV vs lo hi) [] := by
  unfold cutT cutV
  rw [h.len]
  exact (h.drop _).take _
def rSlAll (K : PySem.W.Frag) : V → Option Int → Option Int → Hp → VK → Prop := fun x lo hi H Q => rSlL K x lo hi H Q ∨ rSlA K x lo hi H Q
theorem sl_all : SlR X (rSlAll X.K) := sl_list.or sl_tupA
theorem slice_ok {t z : T} {lo hi : Option Int} {v : V} {U O O2 : List Addr} {e2 : Env} {H2 : Hp} {Z2 : ZP} {Q : VK} (h : slice t lo hi = some z) (r : Rep Y.Cl H2 Z2 t v U) (he : EnvR Y.Cl H2 Z2 e2 σ O2) (s : Step O H Z H2 Z2 [] O2) (hd : okW Y (RT Y) σ O H Z Q z e2) : rSlAll K v lo hi H2 Q := by
  cases t <;> simp only [slice] at h <;> first | cases h; done | skip
  · rename_i ts
    obtain ⟨f, h⟩ := ite_some h
    subst h
    obtain ⟨p, xs, rfl, hp, r1⟩ := tup_of r
    have e0 := Reps.nil_of ts f r1
    subst e0
    refine .inr ⟨p, xs, rfl, sq_tup hp, fun hw => ?_, fun _ q hq => fin_tup hd he s (r1.cut lo hi) hq⟩
    refine hd _ H2 Z2 [] O2 he ?_ s
    have ec : cutT ts lo hi = ts := by
      unfold cutT
      rw [r1.len, hw.1, hw.2, ← r1.len]
      simp
    rw [ec]
    unfold RT Rep
    exact ⟨p, xs, rfl, hp, r1⟩
  · rename_i o ts
    obtain ⟨f, h⟩ := ite_some h
    subst h
    obtain ⟨p, xs, U', rfl, hp, r1, _⟩ := lst_of r
    have e0 := Reps.nil_of ts f r1
    subst e0
    exact .inl ⟨p, xs, rfl, rd_sq hp, fun q hq => fin_lst hd he s (r1.cut lo hi) hq⟩
variable {lo hi : Option Expr} {fl fh : Env → Iv.R (Option Int)}
theorem e_sl {p2 : Pos} (ha : PE X a (ET Y W fa)) (hl : PO X lo (EO Y W fl)) (hh : PO X hi (EO Y W fh)) : PE X (.Subscript a (.Slice lo hi none p2) pos) (ET Y W fun e => (fa e).bind fun t e => (fl e).bind fun l e => (fh e).bind fun h e => R.of (slice t l h) e) := by
  refine PE.imp (pe_slice sl_all ha hl hh) fun σ H Q h => ?_
  refine one_ h fun O Z t e1 v H1 Z1 U1 O1 g he1 r1 s1 hd => ?_
  refine on_ (R1 := RO) s1 he1 hd fun l e2 l' H2 Z2 U2 O2 he2 r2 s2 s3 k2 hd => ?_
  obtain ⟨rfl, rfl⟩ := r2
  rw [List.append_nil] at s3
  refine on_ (R1 := RO) s3 he2 hd fun h e3 h' H3 Z3 U3 O3 he3 r3 s4 s5 k3 hd => ?_
  obtain ⟨rfl, rfl⟩ := r3
  obtain ⟨z, hz, hd⟩ := den_of hd
  exact slice_ok hz (Rep.keep t (Rep.keep t r1 k2) k3) he3 s5.drop hd
theorem e_slv {i : Nat} {p2 : Pos} (ha : PE X a (tVar i)) (hl : PO X lo (EO Y W fl)) (hh : PO X hi (EO Y W fh)) : PE X (.Subscript a (.Slice lo hi none p2) pos) (ET Y W fun e => has e i ((fl e).bind fun l e => (fh e).bind fun h e => (match gt e i with
    | some t => R.of (slice t l h) e
    | none => .bad))) := by
  refine PE.imp (pe_slice sl_all ha hl hh) fun σ H Q h => ?_
  obtain ⟨e, Z, O, he, g, hd⟩ := h
  obtain ⟨⟨t, q⟩, hd⟩ := has_ hd
  obtain ⟨v, hv⟩ := slot_of he q
  refine ⟨v, hv, ?_⟩
  refine on_ (R1 := RO) (Step.refl g) he hd fun l e2 l' H2 Z2 U2 O2 he2 r2 s2 s3 k2 hd => ?_
  obtain ⟨rfl, rfl⟩ := r2
  refine on_ (R1 := RO) s2 he2 hd fun h e3 h' H3 Z3 U3 O3 he3 r3 s4 s5 k3 hd => ?_
  obtain ⟨rfl, rfl⟩ := r3
  cases q2 : gt e3 i with
  | none => rw [q2] at hd; exact hd.elim
  | some t =>
    rw [q2] at hd
    obtain ⟨z, hz, hd⟩ := den_of hd
    obtain ⟨Oi, Or, rt, _, _⟩ := slot_at hv he3 q2
    exact slice_ok hz rt he3 s5.drop hd
end
end Iv
set_option Elab.async false
set_option linter.all false
set_option maxRecDepth 100000
namespace Iv
open PySem PySem.Spec PyProof.Rows L2
section
variable {prog : Program} {w : World} {A : Around} {E : Value → Shared → Prop} {s : Shared}
theorem adjust_rev (n : Nat) : Builtin.Slice.sliceAdjust none none (-1) (n : Int) = ((n : Int) - 1, -1) := by
  unfold Builtin.Slice.sliceAdjust
  simp
theorem places_rev (n : Nat) : Builtin.Slice.slicePlaces ((n : Int) - 1) (-1) (-1) = n := by
  unfold Builtin.Slice.slicePlaces
  have h1 : ¬ ((-1 : Int) > 0) := by omega
  simp only [h1, if_false]
  split
  · simp
  · omega
theorem sliceApplied_rev {sl : Addr} {vs : Value} {n : Nat} {Q : Int × Int × Nat → Shared → Prop} (hs : s.heap.IsSliceOf sl .none .none vs) (ps : IsPart vs (some (-1)))
    (h : Q ((n : Int) - 1, -1, n) s) : wpAny (model prog w) A (Builtin.Slice.sliceApplied (.ref sl) (pure (n : Int))) Q E s := by
  obtain ⟨os, hos, hcs, hds⟩ := id hs
  unfold Builtin.Slice.sliceApplied Builtin.Slice.sliceFields
  refine wpAny_bind (wpAny_bind (wpAny_field hos hds (x := .none) rfl (wpAny_bind (wpAny_field hos hds (x := .none) rfl (wpAny_bind (wpAny_field hos hds (x := vs) rfl (wpAny_pure ?_)))))))
  refine wpAny_bind (HT.slicePart_ ps ?_)
  show wpAny _ _ (if ((-1 : Int) == 0) = true then _ else _) _ _ s
  rw [if_neg (by decide)]
  refine wpAny_bind (slicePart_none (wpAny_bind (slicePart_none (wpAny_bind (wpAny_pure ?_)))))
  show wpAny _ _ (match Builtin.Slice.sliceAdjust none none (-1) (n : Int) with | (lo, hi) => pure (lo, (-1 : Int), Builtin.Slice.slicePlaces lo hi (-1))) _ _ s
  rw [adjust_rev n]
  show wpAny _ _ (pure ((n : Int) - 1, (-1 : Int), Builtin.Slice.slicePlaces ((n : Int) - 1) (-1) (-1))) _ _ s
  rw [places_rev]
  exact wpAny_pure h
theorem fm_congr {α β : Type} {f g : α → Option β} : ∀ {l : List α}, (∀ a ∈ l, f a = g a) → l.filterMap f = l.filterMap g
  | [], _ => rfl
  | a :: l, h => by
    rw [List.filterMap_cons, List.filterMap_cons, h a List.mem_cons_self, fm_congr fun b hb => h b (List.mem_cons_of_mem _ hb)]
theorem pick_rev (xs : Array Value) : ((List.range xs.size).filterMap fun (m : Nat) => xs[((xs.size : Int) - 1 + (m : Int) * -1).toNat]?).toArray = xs.toList.reverse.toArray := by
  have e : ∀ m ∈ List.range xs.size, xs[((xs.size : Int) - 1 + (m : Int) * -1).toNat]? = xs[xs.size - 1 - m]? := by
    intro m hm
    have hm := List.mem_range.mp hm
    have : ((xs.size : Int) - 1 + (m : Int) * -1).toNat = xs.size - 1 - m := by omega
    rw [this]
  rw [fm_congr e]
  have e2 : (fun m => xs[xs.size - 1 - m]?) = (xs[·]?) ∘ fun k => xs.size - 1 - k := rfl
  rw [e2, ← List.filterMap_map, PySem.W.krv_range, List.filterMap_reverse, PySem.W.krv_all]
theorem getItem_tuple_rev {t sl : Addr} {items : Array Value} {vs : Value} {Q : Value → Shared → Prop} (ht : IsTup s.heap t items) (hs : s.heap.IsSliceOf sl .none .none vs) (ps : IsPart vs (some (-1)))
    (h : Q (.ref s.heap.objs.size) { s with heap := s.heap.push { cls := .type "tuple", data := .seq items.toList.reverse.toArray } })
    (hsz : items.size ≤ sizeLine) : wpAny (model prog w) A (getItem (.ref t) (.ref sl)) Q E s := by
  have htake : sizeOk (.seq items.toList.reverse.toArray) := by
    show items.toList.reverse.toArray.size ≤ sizeLine
    simpa using hsz
  obtain ⟨os, hos, hcs, hds⟩ := id hs
  have hTs : s.TypeIs (.ref sl) "slice" := ⟨os, hos, hcs⟩
  unfold getItem
  try with_reducible refine wpAny_holding ?_
  first | refine wpAny_bind (wpAny_pure ?_) | skip
  refine wpAny_bind (wpAny_sequenceKey ht.typeIs (by decide) ?_)
  refine wpAny_bind (wpAny_callSpecial?_slot (name := Str.ofString "__getitem__") ht.typeIs PyProof.Rows.slot_tuple_getitem
    (wpAny_call_entry PyProof.Rows.slot_tuple_getitem ht.typeIs entry_tuple_getitem ?_ (args_tuple_getitem _ _)))
  show wpAny _ _ (Builtin.Tuple.tupleItemsOf (.ref t) >>= _) _ _ s
  refine wpAny_bind (tupleItemsOf_ ht ?_)
  refine wpAny_bind (wpAny_typeOf hTs ?_)
  rw [if_pos (by decide)]
  refine wpAny_bind (sliceApplied_rev hs ps ?_)
  show wpAny _ _ (if (((items.size : Int) - 1) == 0 && (-1 : Int) == 1 && items.size == items.size) = true then _ else _) _ _ s
  have hno : ¬ ((((items.size : Int) - 1) == 0 && (-1 : Int) == 1 && items.size == items.size) = true) := by
    have : ((-1 : Int) == 1) = false := by decide
    rw [this, Bool.and_false, Bool.false_and]
    exact Bool.false_ne_true
  rw [if_neg hno, pick_rev]
  first
    | exact wpAny_bind (m := Builtin.Tuple.tupleExact _) (wpAny_newObj_type (wpAny_pure ⟨_, rfl, wpAny_pure h⟩) htake)
    | exact wpAny_bind (m := Builtin.Tuple.tupleExact _) (wpAny_newObj_type (wpAny_bind (wpAny_pure (wpAny_pure ⟨_, rfl, wpAny_pure h⟩))) htake)
    | exact wpAny_bind (wpAny_bind (m := Builtin.Tuple.tupleExact _) (wpAny_newObj_type (wpAny_pure (wpAny_pure ⟨_, rfl, wpAny_pure h⟩)) htake))
    | exact wpAny_bind (wpAny_bind (m := Builtin.Tuple.tupleExact _) (wpAny_newObj_type (wpAny_pure ⟨_, rfl, wpAny_pure h⟩) htake))
end
section
variable {X : Cx}
def tRevA (K : PySem.W.Frag) (te : TE) : TE := fun σ H Q => te σ H fun x H1 => ∃ a xs, x = .ref a ∧ ((SqL K H1 a xs ∧ ∀ p, H1 p = none → Q (.ref p) (upd H1 p (.lst xs.reverse))) ∨ (SqT K H1 a xs ∧ ∀ p, H1 p = none → Q (.ref p) (upd H1 p (.tup xs.reverse))))
theorem pe_revA {e : Expr} {te : TE} {k : Nat} {p1 p2 p3 pos : Pos} (he : PE X e te) : PE X (.Subscript e (.Slice none none (some (.UnaryOp .USub (.Constant (.int 1) k p1) p2)) p3) pos) (tRevA X.K te) := by
  refine ⟨fun pins s σ H Q I h => ?_⟩
  refine Subscript_ (thn (he.run pins s σ H _ I h) fun v s1 ⟨x, H1, I1, r1, q1⟩ => ?_)
  obtain ⟨a, xs, ex, q1⟩ := q1
  subst ex
  cases r1
  have hst : PO X (some (.UnaryOp .USub (.Constant (.int 1) k p1) p2)) (tPart (tUn (rU fun i => .int (-i)) (tC (.int 1)))) := po_some (pe_un un_neg pe_int)
  refine wpAny_Slice ?_
  rw [evalPart_none]
  refine wpAny_pure ?_
  refine wpAny_pure ?_
  refine thn (hst.run pins s1 σ H1 (fun o H4 => o = some (-1) ∧ H4 = H1) I1 ⟨1, rfl, -1, rfl, rfl, rfl⟩) fun vs s4 ⟨o, H4, I4, ps, eo, e4⟩ => ?_
  subst eo e4
  have I5 : Inv X pins σ H4 { s4 with heap := s4.heap.push { cls := .type "slice", data := .fields #[.none, .none, vs] } } := I4.kept (t' := s4.toks) fun b ob q => Heap.get?_push_of_some _ q
  rcases q1 with ⟨hx, q⟩ | ⟨hx, q⟩
  · obtain ⟨its, r, ht, hz⟩ := I5.list hx
    have hlen := r.length
    show wpAny (model X.prog X.w) X.A (subscriptTail e (.Slice none none (some (.UnaryOp .USub (.Constant (.int 1) k p1) p2)) p3) (.ref a) (.ref s4.heap.objs.size)) (EP X pins σ Q) X.xe { s4 with heap := s4.heap.push { cls := .type "slice", data := .fields #[.none, .none, vs] } }
    refine tail_any (ops := [.ref a, .ref s4.heap.objs.size]) ht.isList.typeIs (PySem.slot_list_getitem.lookup) ?_ (by with_unfolding_all rfl)
    refine wpAny_getItem_list_slice ht.isList (Heap.IsSliceOf.new _ .none .none vs) .none .none ps (by decide) ?_ (by rw [List.size_toArray]; omega)
    rw [PySem.W.krv_pick]
    refine ⟨.ref _, _, I5.laid (t' := s4.toks) (o := .lst xs.reverse) (fun b ob q => Heap.get?_push_of_some _ q) (Nat.le_refl _) ?_, rfl, q _ (I5.hok.fresh (Nat.le_refl _))⟩
    exact ⟨by rw [List.length_reverse]; exact hz, _, 0, r.reverse, Heap.get?_push_size _ rfl⟩
  · obtain ⟨its, r, ht, hz⟩ := I5.tuple hx
    have hlen := r.length
    show wpAny (model X.prog X.w) X.A (subscriptTail e (.Slice none none (some (.UnaryOp .USub (.Constant (.int 1) k p1) p2)) p3) (.ref a) (.ref s4.heap.objs.size)) (EP X pins σ Q) X.xe { s4 with heap := s4.heap.push { cls := .type "slice", data := .fields #[.none, .none, vs] } }
    refine tail_any (ops := [.ref a, .ref s4.heap.objs.size]) ht.typeIs (PyProof.Rows.slot_tuple_getitem.lookup) ?_ (by with_unfolding_all rfl)
    refine getItem_tuple_rev ht (Heap.IsSliceOf.new _ .none .none vs) ps ?_ (by rw [List.size_toArray]; omega)
    refine ⟨.ref _, _, I5.laid (t' := s4.toks) (o := .tup xs.reverse) (fun b ob q => Heap.get?_push_of_some _ q) (Nat.le_refl _) ?_, rfl, q _ (I5.hok.fresh (Nat.le_refl _))⟩
    exact ⟨by rw [List.length_reverse]; exact hz, _, r.reverse, IsTup.new _ _⟩
end
section
variable {Y : Par} {σ : L2.St} {H : Hp} {W : WX} {Cl : Pr} {Z : ZP} {X : Cx} {a : Expr} {fa : Env → Iv.R T}
theorem Reps.rev {ts : List T} {vs : List V} (h : Reps Cl H Z ts vs []) : Reps Cl H Z ts.reverse vs.reverse [] := by
  induction ts generalizing vs with
  | nil => unfold Reps at h; rw [h.1]; exact Reps.nil
  | cons t ts ih =>
    unfold Reps at h
    obtain ⟨v, r, O1, O2, rfl, h1, h2, h3⟩ := h
    have h3' := List.append_eq_nil_iff.mp h3.symm
    rw [h3'.2] at h2
    rw [h3'.1] at h1
    rw [List.reverse_cons, List.reverse_cons]
    exact (ih h2).app (Reps.one h1)
theorem reved_ok {K : PySem.W.Frag} {t z : T} {v : V} {U O O2 : List Addr} {e2 : Env} {H2 : Hp} {Z2 : ZP} {Q : VK} (h : reved t = some z) (r : Rep Y.Cl H2 Z2 t v U) (he : EnvR Y.Cl H2 Z2 e2 σ O2) (s : Step O H Z H2 Z2 [] O2) (hd : okW Y (RT Y) σ O H Z Q z e2) :
    ∃ a xs, v = .ref a ∧ ((SqL K H2 a xs ∧ ∀ p, H2 p = none → Q (.ref p) (upd H2 p (.lst xs.reverse))) ∨ (SqT K H2 a xs ∧ ∀ p, H2 p = none → Q (.ref p) (upd H2 p (.tup xs.reverse)))) := by
  cases t <;> simp only [reved] at h <;> first | cases h; done | skip
  · obtain ⟨f, h⟩ := ite_some h
    subst h
    obtain ⟨p, xs, rfl, hp, r1⟩ := tup_of r
    have e0 := Reps.nil_of _ f r1
    subst e0
    exact ⟨p, xs, rfl, .inr ⟨sq_tup hp, fun q hq => fin_tup hd he s r1.rev hq⟩⟩
  · obtain ⟨f, h⟩ := ite_some h
    subst h
    obtain ⟨p, xs, U', rfl, hp, r1, _⟩ := lst_of r
    have e0 := Reps.nil_of _ f r1
    subst e0
    exact ⟨p, xs, rfl, .inl ⟨rd_sq hp, fun q hq => fin_lst hd he s r1.rev hq⟩⟩
theorem e_rev {k : Nat} {p1 p2 p3 pos : Pos} (ha : PE X a (ET Y W fa)) : PE X (.Subscript a (.Slice none none (some (.UnaryOp .USub (.Constant (.int 1) k p1) p2)) p3) pos) (ET Y W fun e => (fa e).bind fun t e => R.of (reved t) e) := by
  refine PE.imp (pe_revA ha) fun σ H Q h => ?_
  refine one_ h fun O Z t e1 v H1 Z1 U1 O1 g he1 r1 s1 hd => ?_
  obtain ⟨z, hz, hd⟩ := den_of hd
  exact reved_ok hz r1 he1 s1.drop hd
theorem e_revv {i k : Nat} {p1 p2 p3 pos : Pos} (ha : PE X a (tVar i)) : PE X (.Subscript a (.Slice none none (some (.UnaryOp .USub (.Constant (.int 1) k p1) p2)) p3) pos) (ET Y W fun e => (match gt e i with
    | some t => R.of (reved t) e
    | none => .bad)) := by
  refine PE.imp (pe_revA ha) fun σ H Q ⟨e, Z, O, he, g, hd⟩ => ?_
  have hd : Den Y (RT Y) W σ O H Z Q (match gt e i with
    | some t => R.of (reved t) e
    | none => .bad) := hd
  cases q2 : gt e i with
  | none => rw [q2] at hd; exact hd.elim
  | some t =>
    rw [q2] at hd
    obtain ⟨z, hz, hd⟩ := den_of hd
    exact at_var he q2 fun v Oi Or p rt => reved_ok hz rt he (Step.refl g) hd
end
end Iv
set_option Elab.async false
set_option linter.all false
set_option maxRecDepth 100000
namespace Iv
open PySem PySem.Spec PyProof.Rows L2
section
variable {Y : Par} {σ : L2.St} {H : Hp} {W : WX} {Cl : Pr} {Z : ZP} {K : PySem.W.Frag}
variable {X : Cx} {a b c : Expr} {es : List Expr} {pos p : Pos} {fa fb fc : Env → Iv.R T} {fs : Env → Iv.R (List T)}
/-! ### builtins with one argument -/
def notStar : Expr → Bool
  | .Starred _ _ => false
  | _ => true
theorem star_cons {es : List Expr} {env : PySem.Env} (h : notStar a = true) : starEach (a :: es) env = (false, eval a env) :: starEach es env := by
  cases a <;> first | rfl | cases h
theorem star_any {env : PySem.Env} {pos : Pos} : ∀ {es : List Expr}, es.all notStar = true → (backTo pos (starEach es env)).any (·.1) = false
  | [], _ => rfl
  | a :: es, h => by
    have h' := Bool.and_eq_true_iff.mp (by simpa using h : (notStar a && es.all notStar) = true)
    rw [star_cons h'.1]
    exact star_any (es := es) h'.2
/-- a builtin's or a type's rule -/
structure PRule (Y : Par) (X : Cx) (p : Prim) (f : Value) where
  r : List V → Hp → VK → Prop
  ok : CallR X f r
  by_ : ∀ (σ : L2.St) (O : List Addr) (H : Hp) (Z : ZP) (Q : VK) (x z : T) (e2 : Env) (v : V) (H2 : Hp) (Z2 : ZP) (U O2 : List Addr), EnvR Y.Cl H2 Z2 e2 σ O2 → Rep Y.Cl H2 Z2 x v U → Step O H Z H2 Z2 [] O2 → prim p x = some z → okW Y (RT Y) σ O H Z Q z e2 → r [v] H2 Q
theorem bools_of : ∀ {ts : List T} {bs : List Bool} {vs : List V} {U : List Addr}, boolsT ts = some bs → Reps Cl H Z ts vs U → vs = bs.map V.bl
  | [], bs, vs, U, h, r => by unfold boolsT at h; cases h; unfold Reps at r; rw [r.1]; rfl
  | t :: ts, bs, vs, U, h, r => by
    cases t <;> simp only [boolsT] at h <;> first | cases h; done | skip
    rename_i b
    cases q : boolsT ts with
    | none => rw [q] at h; cases h
    | some cs =>
      rw [q] at h
      cases h
      unfold Reps at r
      obtain ⟨v, w, O1, O2, rfl, h1, h2, _⟩ := r
      obtain ⟨rfl, _⟩ := bl_of h1
      rw [bools_of q h2]; rfl
theorem ints_of : ∀ {ts : List T} {bs : List Int} {vs : List V} {U : List Addr}, intsT ts = some bs → Reps Cl H Z ts vs U → vs = bs.map V.int
  | [], bs, vs, U, h, r => by unfold intsT at h; cases h; unfold Reps at r; rw [r.1]; rfl
  | t :: ts, bs, vs, U, h, r => by
    cases t <;> simp only [intsT] at h <;> first | cases h; done | skip
    rename_i b
    cases q : intsT ts with
    | none => rw [q] at h; cases h
    | some cs =>
      rw [q] at h
      cases h
      unfold Reps at r
      obtain ⟨v, w, O1, O2, rfl, h1, h2, _⟩ := r
      obtain ⟨rfl, _⟩ := int_of h1
      rw [ints_of q h2]; rfl
theorem map_some {α β : Type} {o : Option α} {f : α → β} {z : β} (h : o.map f = some z) : ∃ a, o = some a ∧ f a = z := by
  cases o with
  | none => cases h
  | some a => exact ⟨a, rfl, Option.some.inj h⟩
def p_len : PRule Y X .len (.builtin "len") := ⟨_, call_len_seq, by
  intro σ O H Z Q x z e2 v H2 Z2 U O2 he r s h hd
  cases x <;> simp only [prim] at h <;> first | cases h; done | skip
  · cases h
    obtain ⟨q, xs, rfl, hq, r1⟩ := tup_of r
    refine ⟨q, xs, rfl, .inr (sq_tup hq), ?_⟩
    rw [← r1.len]; exact fin_int hd he s
  · cases h
    obtain ⟨q, xs, U', rfl, hq, r1, _⟩ := lst_of r
    refine ⟨q, xs, rfl, .inl (rd_sq hq), ?_⟩
    rw [← r1.len]; exact fin_int hd he s⟩
def p_abs : PRule Y X .abs (.builtin "abs") := ⟨_, call_abs, by
  intro σ O H Z Q x z e2 v H2 Z2 U O2 he r s h hd
  cases x <;> simp only [prim] at h <;> first | cases h; done | skip
  cases h
  obtain ⟨rfl, _⟩ := int_of r
  exact ⟨_, rfl, fin_int hd he s⟩⟩
def p_int : PRule Y X .int (.type "int") := ⟨_, call_int1, by
  intro σ O H Z Q x z e2 v H2 Z2 U O2 he r s h hd
  cases x <;> simp only [prim] at h <;> first | cases h; done | skip
  · cases h
    obtain ⟨rfl, _⟩ := bl_of r
    exact .inr ⟨_, rfl, fin_int hd he s⟩
  · cases h
    obtain ⟨rfl, _⟩ := int_of r
    exact .inl ⟨_, rfl, fin_int hd he s⟩⟩
def p_tuple : PRule Y X .tuple (.type "tuple") := ⟨_, call_tuple_of, by
  intro σ O H Z Q x z e2 v H2 Z2 U O2 he r s h hd
  cases x <;> simp only [prim] at h <;> first | cases h; done | skip
  · obtain ⟨f, h⟩ := ite_some h
    subst h
    obtain ⟨q, xs, rfl, hq, r1⟩ := tup_of r
    have e0 := Reps.nil_of _ f r1
    subst e0
    exact ⟨q, xs, rfl, .inr ⟨sq_tup hq, fin_v hd he s r⟩⟩
  · obtain ⟨f, h⟩ := ite_some h
    subst h
    obtain ⟨q, xs, U', rfl, hq, r1, _⟩ := lst_of r
    have e0 := Reps.nil_of _ f r1
    subst e0
    exact ⟨q, xs, rfl, .inl ⟨rd_sq hq, fun l hl => fin_tup hd he s r1 hl⟩⟩⟩
theorem reps_ints : ∀ ns : List Int, Reps Cl H Z (ns.map T.int) (ns.map V.int) []
  | [] => Reps.nil
  | n :: ns => by
    show Reps Cl H Z (.int n :: ns.map T.int) (.int n :: ns.map V.int) []
    unfold Reps
    exact ⟨_, _, [], [], rfl, rep_int, reps_ints ns, rfl⟩
def p_list (hK : X.K = Y.Cl.K) : PRule Y X .list (.type "list") := ⟨_, call_list_of, by
  intro σ O H Z Q x z e2 v H2 Z2 U O2 he r s h hd
  cases x <;> simp only [prim] at h <;> first | cases h; done | skip
  · obtain ⟨f, h⟩ := ite_some h
    subst h
    obtain ⟨q, xs, rfl, hq, r1⟩ := tup_of r
    have e0 := Reps.nil_of _ f r1
    subst e0
    exact ⟨q, xs, rfl, .inr (sq_tup hq), fun l hl => fin_lst hd he s r1 hl⟩
  · obtain ⟨f, h⟩ := ite_some h
    subst h
    obtain ⟨q, xs, U', rfl, hq, r1, _⟩ := lst_of r
    have e0 := Reps.nil_of _ f r1
    subst e0
    exact ⟨q, xs, rfl, .inl (rd_sq hq), fun l hl => fin_lst hd he s r1 hl⟩
  · rename_i ns
    cases h
    unfold Rep at r
    obtain ⟨q, rfl, hs, _, _⟩ := r
    exact ⟨q, _, rfl, .inl (by rw [hK]; exact hs), fun l hl => fin_lst hd he s (reps_ints ns) hl⟩⟩
def p_all (hc : X.calm = true) : PRule Y X .all (.builtin "all") := ⟨_, cr_all hc, by
  intro σ O H Z Q x z e2 v H2 Z2 U O2 he r s h hd
  cases x <;> simp only [prim] at h <;> first | cases h; done | skip
  obtain ⟨bs, hb, h⟩ := map_some h
  subst h
  obtain ⟨q, xs, U', rfl, hq, r1, _⟩ := lst_of r
  have e := bools_of hb r1
  subst e
  exact ⟨q, bs, rfl, rd_sq hq, fin_bl hd he s⟩⟩
def p_any (hc : X.calm = true) : PRule Y X .any (.builtin "any") := ⟨_, cr_any hc, by
  intro σ O H Z Q x z e2 v H2 Z2 U O2 he r s h hd
  cases x <;> simp only [prim] at h <;> first | cases h; done | skip
  obtain ⟨bs, hb, h⟩ := map_some h
  subst h
  obtain ⟨q, xs, U', rfl, hq, r1, _⟩ := lst_of r
  have e := bools_of hb r1
  subst e
  exact ⟨q, bs, rfl, rd_sq hq, fin_bl hd he s⟩⟩
def p_sum (hc : X.calm = true) : PRule Y X .sum (.builtin "sum") := ⟨_, cr_sum hc, by
  intro σ O H Z Q x z e2 v H2 Z2 U O2 he r s h hd
  cases x <;> simp only [prim] at h <;> first | cases h; done | skip
  obtain ⟨bs, hb, h⟩ := map_some h
  subst h
  obtain ⟨q, xs, U', rfl, hq, r1, _⟩ := lst_of r
  have e := ints_of hb r1
  subst e
  exact ⟨q, bs, rfl, rd_sq hq, fin_int hd he s⟩⟩
/-- the builtins that are known -/
def primV : Prim → Option (Str × Value)
  | .len => some ("len", .builtin "len")
  | .abs => some ("abs", .builtin "abs")
  | .int => some ("int", .type "int")
  | .tuple => some ("tuple", .type "tuple")
  | .list => some ("list", .type "list")
  | .all => some ("all", .builtin "all")
  | .any => some ("any", .builtin "any")
  | .sum => some ("sum", .builtin "sum")
  | _ => none
theorem primV_boot {q : Prim} {x : Str} {f : Value} (h : primV q = some (x, f)) : bootBuiltins x = some f ∧ x ≠ "__name__" ∧ (x == ("__debug__" : Str)) = false := by
  cases q <;> simp only [primV] at h <;> first | cases h; done | skip
  all_goals (cases h; exact ⟨by decide +kernel, by decide, by decide⟩)
def prule (hc : X.calm = true) (hK : X.K = Y.Cl.K) : (q : Prim) → {x : Str} → {f : Value} → primV q = some (x, f) → PRule Y X q f
  | .len, _, _, h => by cases h; exact p_len
  | .abs, _, _, h => by cases h; exact p_abs
  | .int, _, _, h => by cases h; exact p_int
  | .tuple, _, _, h => by cases h; exact p_tuple
  | .list, _, _, h => by cases h; exact p_list hK
  | .all, _, _, h => by cases h; exact p_all hc
  | .any, _, _, h => by cases h; exact p_any hc
  | .sum, _, _, h => by cases h; exact p_sum hc
  | .sorted, _, _, h => by cases h
  | .max, _, _, h => by cases h
  | .min, _, _, h => by cases h
  | .str, _, _, h => by cases h
/-- the call of a known builtin or type -/
theorem pe_callF {x : Str} {f : Value} {r : List V → Hp → VK → Prop} {t : TA} (hf : (∃ id, f = .builtin id) ∨ ∃ T, f = .type T) (hc : CallR X f r) (hg : Gl X x) (hm : X.mg x = none) (hv : bootBuiltins x = some f) (ha : PA X (a :: es) t) (hn : x ≠ "__name__") (hdb : (x == ("__debug__" : Str)) = false)
    (hs : (a :: es).all notStar = true) : PE X (.Call (.Name x p) (a :: es) [] pos) (fun σ H Q => t σ H fun vs H1 => r vs H1 Q) := by
  have h' := Bool.and_eq_true_iff.mp (by simpa using hs : (notStar a && es.all notStar) = true)
  rcases hf with ⟨id, rfl⟩ | ⟨T, rfl⟩
  · exact pe_callB hc hg hm hv ha hn hdb (star_cons h'.1) (star_any h'.2)
  · exact pe_callTy hc hg hm hv ha hn hdb (star_cons h'.1) (star_any h'.2)
theorem primV_kind {q : Prim} {x : Str} {f : Value} (h : primV q = some (x, f)) : (∃ id, f = .builtin id) ∨ ∃ T, f = .type T := by
  cases q <;> simp only [primV] at h <;> first | cases h; done | skip
  all_goals (cases h; first | exact .inl ⟨_, rfl⟩ | exact .inr ⟨_, rfl⟩)
theorem e_prim {q : Prim} {x : Str} {f : Value} (hq : primV q = some (x, f)) (hc : X.calm = true) (hK : X.K = Y.Cl.K) (hg : Gl X x) (hm : X.mg x = none) (ha : PE X a (ET Y W fa)) (hs : notStar a = true) :
    PE X (.Call (.Name x p) [a] [] pos) (ET Y W fun e => (fa e).bind fun x e => R.of (prim q x) e) := by
  obtain ⟨b1, b2, b3⟩ := primV_boot hq
  refine PE.imp (pe_callF (primV_kind hq) (prule (Y := Y) hc hK q hq).ok hg hm b1 (pa_cons ha pa_nil (star_cons hs)) b2 b3 (by simp [hs])) fun σ H Q h => ?_
  refine one_ h fun O Z t e1 v H1 Z1 U1 O1 g he1 r1 s1 hd => ?_
  obtain ⟨z, hz, hd⟩ := den_of hd
  exact (prule (Y := Y) hc hK q hq).by_ σ O H Z Q t z e1 v H1 Z1 U1 O1 he1 r1 s1.drop hz hd
theorem e_primv {q : Prim} {x : Str} {f : Value} {i : Nat} (hq : primV q = some (x, f)) (hc : X.calm = true) (hK : X.K = Y.Cl.K) (hg : Gl X x) (hm : X.mg x = none) (ha : PE X a (tVar i)) (hs : notStar a = true) :
    PE X (.Call (.Name x p) [a] [] pos) (ET Y W fun e => (match gt e i with
    | some t => R.of (prim q t) e
    | none => .bad)) := by
  obtain ⟨b1, b2, b3⟩ := primV_boot hq
  refine PE.imp (pe_callF (primV_kind hq) (prule (Y := Y) hc hK q hq).ok hg hm b1 (pa_cons ha pa_nil (star_cons hs)) b2 b3 (by simp [hs])) fun σ H Q h => ?_
  obtain ⟨e, Z, O, he, g, hd⟩ := h
  have hd : Den Y (RT Y) W σ O H Z Q (match gt e i with
    | some t => R.of (prim q t) e
    | none => .bad) := hd
  cases q2 : gt e i with
  | none => rw [q2] at hd; exact hd.elim
  | some t =>
    rw [q2] at hd
    obtain ⟨z, hz, hd⟩ := den_of hd
    exact at_var he q2 fun v Oi Or p rt => (prule (Y := Y) hc hK q hq).by_ σ O H Z Q t z e v H Z Oi O he rt (Step.refl g) hz hd
def prim2V : Prim → Option (Str × Value)
  | .max => some ("max", .builtin "max")
  | .min => some ("min", .builtin "min")
  | _ => none
theorem e_prim2 {q : Prim} {x : Str} {f : Value} (hq : prim2V q = some (x, f)) (hc : X.calm = true) (hg : Gl X x) (hm : X.mg x = none) (ha : PE X a (ET Y W fa)) (hb : PE X b (ET Y W fb)) (hs : notStar a = true) (hs2 : notStar b = true) :
    PE X (.Call (.Name x p) [a, b] [] pos) (ET Y W fun e => (fa e).bind fun x e => (fb e).bind fun y e => R.of (prim2 q x y) e) := by
  cases q <;> simp only [prim2V] at hq <;> first | cases hq; done | skip
  · cases hq
    refine PE.imp (pe_callF (.inl ⟨_, rfl⟩) (call_max2 hc) hg hm (by decide +kernel) (pa_cons ha (pa_cons hb pa_nil (star_cons hs2)) (star_cons hs)) (by decide) (by decide) (by simp [hs, hs2])) fun σ H Q h => ?_
    refine two_ h keepT fun O Z x y e2 v u H2 Z2 U1 U2 O2 g he r1 r2 s hd => ?_
    obtain ⟨z, hz, hd⟩ := den_of hd
    cases x <;> simp only [prim2] at hz <;> first | cases hz; done | skip
    cases y <;> simp only [prim2] at hz <;> first | cases hz; done | skip
    cases hz
    obtain ⟨rfl, _⟩ := int_of r1
    obtain ⟨rfl, _⟩ := int_of r2
    exact ⟨_, _, rfl, fin_int hd he s⟩
  · cases hq
    refine PE.imp (pe_callF (.inl ⟨_, rfl⟩) (call_min2 hc) hg hm (by decide +kernel) (pa_cons ha (pa_cons hb pa_nil (star_cons hs2)) (star_cons hs)) (by decide) (by decide) (by simp [hs, hs2])) fun σ H Q h => ?_
    refine two_ h keepT fun O Z x y e2 v u H2 Z2 U1 U2 O2 g he r1 r2 s hd => ?_
    obtain ⟨z, hz, hd⟩ := den_of hd
    cases x <;> simp only [prim2] at hz <;> first | cases hz; done | skip
    cases y <;> simp only [prim2] at hz <;> first | cases hz; done | skip
    cases hz
    obtain ⟨rfl, _⟩ := int_of r1
    obtain ⟨rfl, _⟩ := int_of r2
    exact ⟨_, _, rfl, fin_int hd he s⟩

/-! ### isinstance -/
def kdV : Kd → Option String
  | .int => some "int"
  | .bool => some "bool"
  | .tuple => some "tuple"
  | .list => some "list"
  | .str => some "str"
  | .cls _ => none
theorem ty_of {t : T} {k : Kd} {n : String} {d : Bool} {v : V} {U : List Addr} (hk : kdV k = some n) (h : isKd t k = some d) (r : Rep Cl H Z t v U) : ∃ m : String, TyX K H v (.type m) ∧ kitB m n = some d := by
  have key : ∀ (m : String) , (m = "NoneType" ∨ m = "bool" ∨ m = "int" ∨ m = "str" ∨ m = "list" ∨ m = "tuple") → kitB m n = some (m == n || (m == "bool" && n == "int")) := by
    intro m hm
    cases k <;> simp only [kdV] at hk <;> first | cases hk; done | skip
    all_goals (cases hk; rcases hm with rfl | rfl | rfl | rfl | rfl | rfl <;> decide +kernel)
  have ke : ∀ m : String, (m = "NoneType" ∨ m = "bool" ∨ m = "int" ∨ m = "str" ∨ m = "list" ∨ m = "tuple") → (m == n || (m == "bool" && n == "int")) = d → kitB m n = some d := fun m hm e => by rw [key m hm, e]
  cases t with
  | non => obtain ⟨rfl, _⟩ := non_of r; refine ⟨_, .base .non, ke _ (by simp) ?_⟩; cases k <;> simp only [kdV] at hk <;> first | cases hk; done | skip <;> (cases hk; simp [isKd] at h; simp [h])
  | bl x => obtain ⟨rfl, _⟩ := bl_of r; refine ⟨_, .base (.bl x), ke _ (by simp) ?_⟩; cases k <;> simp only [kdV] at hk <;> first | cases hk; done | skip <;> (cases hk; simp [isKd] at h; simp [h])
  | int x => obtain ⟨rfl, _⟩ := int_of r; refine ⟨_, .base (.int x), ke _ (by simp) ?_⟩; cases k <;> simp only [kdV] at hk <;> first | cases hk; done | skip <;> (cases hk; simp [isKd] at h; simp [h])
  | str x => obtain ⟨rfl, _⟩ := str_of r; refine ⟨_, .base (.str x), ke _ (by simp) ?_⟩; cases k <;> simp only [kdV] at hk <;> first | cases hk; done | skip <;> (cases hk; simp [isKd] at h; simp [h])
  | tup x => obtain ⟨q, xs, rfl, hq, _⟩ := tup_of r; refine ⟨_, .base (.tup hq), ke _ (by simp) ?_⟩; cases k <;> simp only [kdV] at hk <;> first | cases hk; done | skip <;> (cases hk; simp [isKd] at h; simp [h])
  | lst o x =>
    obtain ⟨q, xs, U', rfl, hq, _⟩ := lst_of r
    refine ⟨"list", ?_, ke _ (by simp) ?_⟩
    · rcases hq with hq | ⟨ob, hq⟩
      · exact .base (.lst hq)
      · exact .base (.frz hq)
    · cases k <;> simp only [kdV] at hk <;> first | cases hk; done | skip <;> (cases hk; simp [isKd] at h; simp [h])
  | obj c x => cases k <;> simp [isKd] at h
  | dic _ _ _ => simp [isKd] at h
  | clo _ _ => simp [isKd] at h
  | scr _ => simp [isKd] at h
theorem kd_boot {k : Kd} {n : String} (h : kdV k = some n) {x : Str} (hx : x = Str.ofString n) : bootBuiltins x = some (.type n) ∧ x ≠ "__name__" ∧ (x == ("__debug__" : Str)) = false := by
  cases k <;> simp only [kdV] at h <;> first | cases h; done | skip
  all_goals (cases h; subst hx; exact ⟨by decide +kernel, by decide, by decide⟩)
theorem e_isi {k : Kd} {n : String} {x : Str} {p2 : Pos} (hk : kdV k = some n) (hx : x = Str.ofString n) (hg : Gl X "isinstance") (hm : X.mg "isinstance" = none) (hg2 : Gl X x) (hm2 : X.mg x = none) (ha : PE X a (ET Y W fa)) (hs : notStar a = true) :
    PE X (.Call (.Name "isinstance" p) [a, .Name x p2] [] pos) (ET Y W fun e => (fa e).bind fun x e => boolR (isKd x k) e) := by
  obtain ⟨b1, b2, b3⟩ := kd_boot hk hx
  have hT : PE X (.Name x p2) (tC (.ty n)) := pe_bltn hg2 hm2 b1 rfl b2 b3
  refine PE.imp (pe_callF (.inl ⟨_, rfl⟩) call_isi hg hm (by decide +kernel) (pa_cons ha (pa_cons hT pa_nil rfl) (star_cons hs)) (by decide) (by decide) (by rw [List.all_cons, hs]; rfl)) fun σ H Q h => ?_
  refine one_ h fun O Z t e1 v H1 Z1 U1 O1 g he1 r1 s1 hd => ?_
  obtain ⟨d, hz, hd⟩ := boolR_of hd
  obtain ⟨m, h1, h2⟩ := ty_of (K := X.K) hk hz r1
  exact ⟨v, .ty n, _, _, d, rfl, .ty n, h1, kit_ty h2, fin_bl hd he1 s1⟩
theorem e_isiv {k : Kd} {n : String} {x : Str} {i : Nat} {p2 : Pos} (hk : kdV k = some n) (hx : x = Str.ofString n) (hg : Gl X "isinstance") (hm : X.mg "isinstance" = none) (hg2 : Gl X x) (hm2 : X.mg x = none) (ha : PE X a (tVar i)) (hs : notStar a = true) :
    PE X (.Call (.Name "isinstance" p) [a, .Name x p2] [] pos) (ET Y W fun e => (match gt e i with
    | some t => boolR (isKd t k) e
    | none => .bad)) := by
  obtain ⟨b1, b2, b3⟩ := kd_boot hk hx
  have hT : PE X (.Name x p2) (tC (.ty n)) := pe_bltn hg2 hm2 b1 rfl b2 b3
  refine PE.imp (pe_callF (.inl ⟨_, rfl⟩) call_isi hg hm (by decide +kernel) (pa_cons ha (pa_cons hT pa_nil rfl) (star_cons hs)) (by decide) (by decide) (by rw [List.all_cons, hs]; rfl)) fun σ H Q h => ?_
  obtain ⟨e, Z, O, he, g, hd⟩ := h
  have hd : Den Y (RT Y) W σ O H Z Q (match gt e i with
    | some t => boolR (isKd t k) e
    | none => .bad) := hd
  cases q2 : gt e i with
  | none => rw [q2] at hd; exact hd.elim
  | some t =>
    rw [q2] at hd
    obtain ⟨d, hz, hd⟩ := boolR_of hd
    refine at_var he q2 fun v Oi Or p rt => ?_
    obtain ⟨m, h1, h2⟩ := ty_of (K := X.K) hk hz rt
    exact ⟨v, .ty n, _, _, d, rfl, .ty n, h1, kit_ty h2, fin_bl hd he (Step.refl g)⟩
end
end Iv
set_option Elab.async false
set_option linter.all false
set_option maxRecDepth 100000
namespace Iv
open PySem PySem.Spec PyProof.Rows L2
section
variable {Y : Par} {σ : L2.St} {H : Hp} {W : WX} {Cl : Pr} {Z : ZP} {K : PySem.W.Frag}
variable {X : Cx} {a b c : Expr} {es : List Expr} {pos p : Pos} {fa fb fc : Env → Iv.R T} {fs : Env → Iv.R (List T)}
theorem Step.frame {A B A' U : List Addr} {H' : Hp} {Z' : ZP} (s : Step A H Z H' Z' U A') (g : Good H Z (A ++ B)) : Step (A ++ B) H Z H' Z' U (A' ++ B) := by
  have nd := nodup_app.mp g.nd
  have dis : ∀ a ∈ B, a ∉ A ∧ H a ≠ none := fun a ha => ⟨fun h => nd.2.2 a h ha, mut_ne (g.live a (List.mem_append_right _ ha))⟩
  have keepB : ∀ a ∈ B, H' a = H a := fun a ha => s.keep a (dis a ha).2 (dis a ha).1
  refine ⟨fun a h1 h2 => s.keep a h1 fun h => h2 (List.mem_append_left _ h), s.there, s.zz, fun a h1 h2 h3 => s.zn a h1 h2 fun h => h3 (List.mem_append_left _ h), ⟨?_, fun a ha => ?_, fun a ha => ?_, s.good.zl⟩, fun a ha => ?_⟩
  · rw [← List.append_assoc]
    refine nodup_app.mpr ⟨s.good.nd, nd.2.1, fun a ha hb => ?_⟩
    rcases s.sub a ha with h | h
    · exact (dis a hb).1 h
    · exact (dis a hb).2 h
  · rw [← List.append_assoc] at ha
    rcases List.mem_append.mp ha with ha | ha
    · exact s.good.nz a ha
    · exact fun z => g.nz a (List.mem_append_right _ ha) (s.zn a z (dis a ha).2 (dis a ha).1)
  · rw [← List.append_assoc] at ha
    rcases List.mem_append.mp ha with ha | ha
    · exact s.good.live a ha
    · rw [keepB a ha]; exact g.live a (List.mem_append_right _ ha)
  · rw [← List.append_assoc] at ha
    rcases List.mem_append.mp ha with ha | ha
    · exact (s.sub a ha).imp_left fun h => List.mem_append_left _ h
    · exact .inl (List.mem_append_right _ ha)
theorem Step.frameKeep {A B A' U : List Addr} {H' : Hp} {Z' : ZP} (s : Step A H Z H' Z' U A') (g : Good H Z (A ++ B)) : Keep B H Z H' Z' :=
  s.keeps (g.sub (nodup_app.mp g.nd).1 fun a ha => List.mem_append_left _ ha) fun a ha => ⟨mut_ne (g.live a (List.mem_append_right _ ha)), fun h => (nodup_app.mp g.nd).2.2 a h ha⟩

/-! ### what a def promises -/
def IoR (Y : Par) (io : Bool) (H : Hp) (Z : ZP) (i : T) (vs : List V) (O : List Addr) : Prop :=
  if io = true then ∃ v0 r, vs = v0 :: r ∧ Rep Y.Cl H Z i v0 O else O = []
def argsOk (io : Bool) (ts : List T) : Bool := if io = true then isFs ts.tail && !ts.isEmpty else isFs ts
def crD (Y : Par) (io : Bool) (vs : List V) (H : Hp) (Z : ZP) (O : List Addr) (Q : VK) (E : XK) : Cr → Prop
  | .ok t i => ∀ v H' Z' U O', Rep Y.Cl H' Z' t v U → IoR Y io H' Z' i vs O' → Step O H Z H' Z' U O' → Q v H'
  | .exc c p i => ∀ cls d H' Z' O', Y.EX c p cls d H' Z' → IoR Y io H' Z' i vs O' → Step O H Z H' Z' [] O' → E cls d H'
  | .bad => False
def spOf (Y : Par) (io : Bool) (n : Nat) (m : List T → Cr) : Sp := fun vs H Q E =>
  vs.length = n ∧ ∃ ts Z O, Reps Y.Cl H Z ts vs O ∧ Good H Z O ∧ argsOk io ts = true ∧ crD Y io vs H Z O Q E (m ts)
/-- a def, known by name -/
structure FnI where
  name : Str
  n : Nat
  io : Bool
def FnHas (Y : Par) (X : Cx) (k : Nat) (i : FnI) (m : List T → Cr) : Prop :=
  ∃ (f : Addr) (fd : FuncData) (ps : List Str), X.mg i.name = some (.ref f) ∧ PySem.W.keepIn X.K (.ref f) = true ∧ Binds X.K fd ps [] ∧ FnOk X.prog X.w X.K X.mg X.base (L2.CX X.prog X.w) k f fd ps (spOf Y i.io i.n m)
/-- a promise for a narrower reading -/
theorem FnHas.imp {k : Nat} {i : FnI} {m m' : List T → Cr} (h : FnHas Y X k i m) (hm : ∀ ts, m' ts ≠ .bad → m' ts = m ts) : FnHas Y X k i m' := by
  obtain ⟨f, fd, ps, h1, h2, h3, h4⟩ := h
  refine ⟨f, fd, ps, h1, h2, h3, h4.imp fun vs H Q E ⟨hl, ts, Z, O, r, g, a, hd⟩ => ⟨hl, ts, Z, O, r, g, a, ?_⟩⟩
  rw [← hm ts fun e => by rw [e] at hd; exact hd]
  exact hd
theorem isF_nil {ts : List T} {vs : List V} {U : List Addr} (r : Reps Cl H Z ts vs U) (f : isFs ts = true) : U = [] := Reps.nil_of ts f r
theorem e_call {f : Str} {k : Nat} {n : Nat} {m : List T → Cr} (F : FnHas Y X k ⟨f, n, false⟩ m) (hr : Room k X.A) (hg : Gl X f) (tk : Takes X W) (hdb : (f == ("__debug__" : Str)) = false) (hs : (a :: es).all notStar = true) (ha : PA X (a :: es) (ETs Y W fs))
    (hl : ∀ e ts e', fs e = .ok ts e' → ts.length = n) : PE X (.Call (.Name f p) (a :: es) [] pos) (ET Y W fun e => (fs e).bind fun ts e => crR (m (frzs ts)) e) := by
  obtain ⟨fa, fd, ps, hm, hk, hb, F⟩ := F
  have h' := Bool.and_eq_true_iff.mp (by simpa using hs : (notStar a && es.all notStar) = true)
  refine PE.imp (pe_callS (E := WE W) F hr hg hm hk hb (passAt tk) ha hdb (star_cons h'.1) (star_any h'.2)) fun σ H Q h => ?_
  obtain ⟨e, Z, O, he, g, hd⟩ := h
  refine ⟨e, Z, O, he, g, ?_⟩
  cases q : fs e with
  | bad => simp only [q] at hd; exact hd
  | exc c p e' => simp only [q] at hd; exact hd
  | ok ts e1 =>
    simp only [q] at hd
    intro vs H1 Z1 U1 O1 he1 r s
    have s2 : Step O H Z H1 (zadd Z1 U1) [] O1 := Step.frz (U2 := []) (by simpa using s)
    have r2 : Reps Y.Cl H1 (zadd Z1 U1) (frzs ts) vs [] := Reps.frz ts r (fun a z => .inl z) fun a ha => .inr ha
    have g2 := s2.goodO
    refine ⟨by rw [← r.len]; exact hl _ _ _ q, frzs ts, zadd Z1 U1, [], r2, g2.sub List.nodup_nil (fun a ha => by cases ha), ?_, ?_⟩
    · show isFs (frzs ts) = true
      exact isFs_frzs ts
    · have hd : Den Y (RT Y) W σ O H Z Q (crR (m (frzs ts)) e1) := hd
      cases q2 : m (frzs ts) with
      | bad => rw [q2] at hd; exact hd.elim
      | ok t i =>
        rw [q2] at hd
        intro v H' Z' U O' rv io s3
        have io : O' = [] := io
        subst io
        have s4 := s3.frame (B := O1) g2
        have k4 := s3.frameKeep (B := O1) g2
        exact hd v H' Z' U O1 ((he1.keep freeze_keep).keep k4) rv (s2.trans s4)
      | exc c p i =>
        rw [q2] at hd
        intro cls d H' Z' O' ex io s3
        have io : O' = [] := io
        subst io
        have s4 := s3.frame (B := O1) g2
        have k4 := s3.frameKeep (B := O1) g2
        exact hd cls d H' Z' O1 ((he1.keep freeze_keep).keep k4) ex (s2.trans s4)
/-- .. that changes its first argument, a name's -/
theorem e_cio {f : Str} {k : Nat} {n i : Nat} {m : List T → Cr} (F : FnHas Y X k ⟨f, n + 1, true⟩ m) (hr : Room k X.A) (hg : Gl X f) (tk : Takes X W) (hdb : (f == ("__debug__" : Str)) = false) (hs : (a :: es).all notStar = true) (hx : PE X a (tVar i)) (ha : PA X es (ETs Y W fs))
    (hl : ∀ e ts e', fs e = .ok ts e' → ts.length = n) : PE X (.Call (.Name f p) (a :: es) [] pos) (ET Y W fun e => has e i ((fs e).bind fun ts e => (match gt e i with
    | some t => crIo (m (t :: frzs ts)) i e
    | none => .bad))) := by
  obtain ⟨fa, fd, ps, hm, hk, hb, F⟩ := F
  have h' := Bool.and_eq_true_iff.mp (by simpa using hs : (notStar a && es.all notStar) = true)
  refine PE.imp (pe_callS (E := WE W) F hr hg hm hk hb (passAt tk) (pa_cons hx ha (star_cons h'.1)) hdb (star_cons h'.1) (star_any h'.2)) fun σ H Q h => ?_
  obtain ⟨e, Z, O, he, g, hd⟩ := h
  obtain ⟨⟨t, q0⟩, hd⟩ := has_ hd
  obtain ⟨v0, hv⟩ := slot_of he q0
  refine ⟨v0, hv, e, Z, O, he, g, ?_⟩
  cases q : fs e with
  | bad => simp only [q] at hd; exact hd
  | exc c p e' => simp only [q] at hd; exact hd
  | ok ts e1 =>
    simp only [q] at hd
    intro vs H1 Z1 U1 O1 he1 r s
    have s2 : Step O H Z H1 (zadd Z1 U1) [] O1 := Step.frz (U2 := []) (by simpa using s)
    have r2 : Reps Y.Cl H1 (zadd Z1 U1) (frzs ts) vs [] := Reps.frz ts r (fun a z => .inl z) fun a ha => .inr ha
    have he2 := he1.keep (Z' := zadd Z1 U1) (freeze_keep (F := U1))
    have hd : Den Y (RT Y) W σ O H Z Q (match gt e1 i with
      | some t => crIo (m (t :: frzs ts)) i e1
      | none => .bad) := hd
    cases q1 : gt e1 i with
    | none => rw [q1] at hd; exact hd.elim
    | some t1 =>
      rw [q1] at hd
      obtain ⟨Oi, Or, rt, hp, hn⟩ := slot_at hv he2 q1
      have g2 := s2.goodO.perm hp
      refine ⟨by rw [List.length_cons, ← r.len, hl _ _ _ q], t1 :: frzs ts, zadd Z1 U1, Oi, ?_, g2.sub (nodup_app.mp g2.nd).1 fun a ha => List.mem_append_left _ ha, ?_, ?_⟩
      · unfold Reps
        exact ⟨v0, vs, Oi, [], rfl, rt, r2, by simp⟩
      · show (isFs (frzs ts) && !(t1 :: frzs ts).isEmpty) = true
        rw [isFs_frzs]; rfl
      · have hd : Den Y (RT Y) W σ O H Z Q (crIo (m (t1 :: frzs ts)) i e1) := hd
        cases q2 : m (t1 :: frzs ts) with
        | bad => rw [q2] at hd; exact hd.elim
        | ok t2 i2 =>
          rw [q2] at hd
          intro v H' Z' U O' rv io s3
          obtain ⟨w0, rr, e0, ri⟩ := (show ∃ w0 rr, v0 :: vs = w0 :: rr ∧ Rep Y.Cl H' Z' i2 w0 O' from io)
          cases e0
          have s4 := (s3.frame (B := Or) g2).permL hp.symm
          have k4 := s3.frameKeep (B := Or) g2
          obtain ⟨O'', pp, he3⟩ := env_put (hn.keep k4) (gt_lt q1) hv ri
          refine hd v H' Z' U O'' he3 rv ((s2.trans s4).perm ?_)
          exact (List.Perm.append_left _ pp.symm)
        | exc c p i2 =>
          rw [q2] at hd
          intro cls d H' Z' O' ex io s3
          obtain ⟨w0, rr, e0, ri⟩ := (show ∃ w0 rr, v0 :: vs = w0 :: rr ∧ Rep Y.Cl H' Z' i2 w0 O' from io)
          cases e0
          have s4 := (s3.frame (B := Or) g2).permL hp.symm
          have k4 := s3.frameKeep (B := Or) g2
          obtain ⟨O'', pp, he3⟩ := env_put (hn.keep k4) (gt_lt q1) hv ri
          refine hd cls d H' Z' O'' he3 ex ((s2.trans s4).perm ?_)
          exact (List.Perm.append_left _ pp.symm)
end
end Iv
set_option Elab.async false
set_option linter.all false
set_option maxRecDepth 100000
namespace Iv
open PySem PySem.Spec PyProof.Rows L2
section
variable {Y : Par} {σ : L2.St} {H : Hp} {W : WX} {Cl : Pr} {Z : ZP} {K : PySem.W.Frag}
variable {X : Cx} {a b c tg : Expr} {es : List Expr} {pos p : Pos} {fa fb fc : Env → Iv.R T} {fs : Env → Iv.R (List T)}
/-! ### what a loop walks -/
/-- the iterator J gives the trees its -/
def ItOk (Y : Par) (its : List T) (J : It) (H : Hp) (Z : ZP) : Prop :=
  ∀ H' Z', Keep [] H Z H' Z' → Good H' Z' [] → ∀ i, (its.length ≤ i → J.stop i H') ∧ ∀ t, its[i]? = some t → J.go i H' ∧ ∀ x H'', J.yld i H' x H'' → Rep Y.Cl H'' Z' t x [] ∧ Step [] H' Z' H'' Z' [] []
abbrev RI (Y : Par) : Rl (List T) It := fun H Z its J U => U = [] ∧ isFs its = true ∧ ItOk Y its J H Z
abbrev EI (Y : Par) (W : WX) (f : Env → Iv.R (List T)) : TI := tE Y (RI Y) W f
theorem rd_keep {H' : Hp} {Z' : ZP} {q : Addr} {vs : List V} (k : Keep [] H Z H' Z') (z : Z q) (h : Rd H q (.lst vs)) : Rd H' q (.lst vs) := by
  unfold Rd at h ⊢
  rw [k.zk q z]; exact h
theorem itL {Y : Par} {ts : List T} {vs : List V} {q : Addr} (z : Z q) (h : Rd H q (.lst vs)) (r : Reps Y.Cl H Z ts vs []) (f : isFs ts = true) : ItOk Y ts (Itl K q) H Z := by
  intro H' Z' k g i
  have h' := rd_keep k z h
  have r' := Reps.keep ts r k
  refine ⟨fun hi => ⟨vs, rd_sq h', by rw [← r.len]; exact hi⟩, fun t ht => ?_⟩
  obtain ⟨v, O1, Oi, O2, e1, e2, _⟩ := r'.at_ ht
  refine ⟨⟨vs, v, rd_sq h', e1⟩, fun x H'' ⟨eH, hx⟩ => ?_⟩
  subst eH
  exact ⟨r'.mem f ht (hx vs (rd_sq h')), Step.refl g⟩
theorem itT {Y : Par} {ts : List T} {vs : List V} {q : Addr} (h : H q = some (.tup vs)) (r : Reps Y.Cl H Z ts vs []) (f : isFs ts = true) : ItOk Y ts (Itt K q) H Z := by
  intro H' Z' k g i
  have h' := k.tup q vs h
  have r' := Reps.keep ts r k
  refine ⟨fun hi => ⟨vs, sq_tup h', by rw [← r.len]; exact hi⟩, fun t ht => ?_⟩
  obtain ⟨v, O1, Oi, O2, e1, e2, _⟩ := r'.at_ ht
  refine ⟨⟨vs, v, sq_tup h', e1⟩, fun x H'' ⟨eH, hx⟩ => ?_⟩
  subst eH
  exact ⟨r'.mem f ht (hx vs (sq_tup h')), Step.refl g⟩
/-- a list in hand, frozen: readable, its items frozen -/
theorem lst_frz {o : Bool} {ts : List T} {v : V} {U : List Addr} (h : Rep Cl H Z (.lst o ts) v U) : ∃ q vs, v = .ref q ∧ Rd H q (.lst vs) ∧ zadd Z U q ∧ Reps Cl H (zadd Z U) (frzs ts) vs [] := by
  have h2 := Rep.frz (Z' := zadd Z U) (.lst o ts) h (fun a z => .inl z) fun a ha => .inr ha
  unfold frz Rep at h2
  obtain ⟨q, vs, e, z, r, rr, _⟩ := h2
  exact ⟨q, vs, e, r, z, rr⟩
theorem tup_frz {ts : List T} {v : V} {U : List Addr} (h : Rep Cl H Z (.tup ts) v U) : ∃ q vs, v = .ref q ∧ H q = some (.tup vs) ∧ Reps Cl H (zadd Z U) (frzs ts) vs [] := by
  have h2 := Rep.frz (Z' := zadd Z U) (.tup ts) h (fun a z => .inl z) fun a ha => .inr ha
  unfold frz at h2
  exact tup_of h2
abbrev seqF (fa : Env → Iv.R T) : Env → Iv.R (List T) := fun e => (fa e).bind fun x e => (match items x with
    | some ts => .ok (frzs ts) e
    | none => .bad)
theorem i_seq (ha : PE X a (ET Y W fa)) : PI X tg a (EI Y W (seqF fa)) := by
  refine PI.imp (PI.or (pi_list ha) (pi_tup ha)) fun σ H R ⟨e, Z, O, he, g, hd⟩ => ?_
  have hd : Den Y (RI Y) W σ O H Z R ((fa e).bind fun x e => (match items x with
    | some ts => .ok (frzs ts) e
    | none => .bad)) := hd
  cases q : fa e with
  | bad => rw [q] at hd; exact hd.elim
  | exc c p e' =>
    rw [q] at hd
    refine .inl ⟨e, Z, O, he, g, ?_⟩
    show Den0 _ _ (fa e)
    rw [q]; exact hd
  | ok x e1 =>
    rw [q] at hd
    cases x <;> simp only [Iv.R.bind_ok, items] at hd <;> first | exact hd.elim | skip
    · rename_i ts
      refine .inr ⟨e, Z, O, he, g, ?_⟩
      show Den0 _ _ (fa e)
      rw [q]
      intro v H1 Z1 U O1 he1 r s
      obtain ⟨q1, vs, rfl, hq, rr⟩ := tup_frz r
      have s2 : Step O H Z H1 (zadd Z1 U) [] O1 := Step.frz (U2 := []) (by simpa using s)
      exact ⟨q1, rfl, ⟨vs, sq_tup hq⟩, hd _ H1 (zadd Z1 U) [] O1 (he1.keep freeze_keep) ⟨rfl, isFs_frzs ts, itT hq rr (isFs_frzs ts)⟩ s2⟩
    · rename_i o ts
      refine .inl ⟨e, Z, O, he, g, ?_⟩
      show Den0 _ _ (fa e)
      rw [q]
      intro v H1 Z1 U O1 he1 r s
      obtain ⟨q1, vs, rfl, hq, hz, rr⟩ := lst_frz r
      have s2 : Step O H Z H1 (zadd Z1 U) [] O1 := Step.frz (U2 := []) (by simpa using s)
      exact ⟨q1, rfl, ⟨vs, rd_sq hq⟩, hd _ H1 (zadd Z1 U) [] O1 (he1.keep freeze_keep) ⟨rfl, isFs_frzs ts, itL hz hq rr (isFs_frzs ts)⟩ s2⟩
/-! #### range -/
theorem rangeT_len {i j : Int} {ts : List T} (h : rangeT i j = some ts) : (-(2 ^ 62) ≤ i ∧ i < 2 ^ 62 ∧ -(2 ^ 62) ≤ j ∧ j < 2 ^ 62) ∧ ts = (List.range (j - i).toNat).map fun k => T.int (i + (k : Nat)) := by
  unfold rangeT at h
  split at h
  · rename_i hc
    unfold RGB at hc
    cases h
    exact ⟨by omega, rfl⟩
  · cases h
theorem isFs_ints (n : Nat) (i : Int) : isFs ((List.range n).map fun k => T.int (i + (k : Nat))) = true := by
  rw [isFs_mem]
  intro t ht
  obtain ⟨k, _, e⟩ := List.mem_map.mp ht
  rw [← e]; rfl
theorem itR {Y : Par} {i : Int} {n : Nat} : ItOk Y ((List.range n).map fun k => T.int (i + (k : Nat))) (Itr i n) H Z := by
  intro H' Z' k g m
  refine ⟨fun hi => (show n ≤ m by simpa using hi), fun t ht => ?_⟩
  rw [List.getElem?_map] at ht
  have hm : m < n := by
    by_cases hm : m < n
    · exact hm
    · rw [List.getElem?_eq_none (by simpa using hm)] at ht; cases ht
  rw [List.getElem?_range hm] at ht
  cases ht
  refine ⟨hm, fun x H'' ⟨eH, hx⟩ => ?_⟩
  subst eH hx
  exact ⟨rep_int, Step.refl g⟩
theorem i_rg1 (hg : Gl X "range") (hm : X.mg "range" = none) (ha : PE X a (ET Y W fa)) (hs : notStar a = true) : PI X tg (.Call (.Name "range" p) [a] [] pos) (EI Y W fun e => (fa e).bind fun x e => (match x with
    | .int j => R.of (rangeT 0 j) e
    | _ => .bad)) := by
  refine PI.imp (pi_range1 hg hm (pa_cons ha pa_nil (star_cons hs)) (star_cons hs)) fun σ H R h => ?_
  refine one_ h fun O Z x e2 v H2 Z2 U2 O2 g he r s hd => ?_
  cases x <;> first | exact hd.elim | skip
  rename_i j
  obtain ⟨rfl, rfl⟩ := int_of r
  obtain ⟨ts, hts, hd⟩ := den_of hd
  obtain ⟨hb, rfl⟩ := rangeT_len hts
  have e0 : (j - 0).toNat = j.toNat := by simp
  rw [e0] at hd
  exact ⟨j, rfl, hb.2.2.1, hb.2.2.2, hd _ H2 Z2 [] O2 he ⟨rfl, isFs_ints _ _, itR⟩ s⟩
theorem i_rg2 (hg : Gl X "range") (hm : X.mg "range" = none) (ha : PE X a (ET Y W fa)) (hb : PE X b (ET Y W fb)) (hs : notStar a = true) (hs2 : notStar b = true) : PI X tg (.Call (.Name "range" p) [a, b] [] pos) (EI Y W fun e => (fa e).bind fun x e => (fb e).bind fun y e => (match x, y with
    | .int i, .int j => R.of (rangeT i j) e
    | _, _ => .bad)) := by
  refine PI.imp (pi_range2 hg hm (pa_cons ha (pa_cons hb pa_nil (star_cons hs2)) (star_cons hs)) (by rw [star_cons hs, star_cons hs2]; rfl) (by rw [star_cons hs2]; rfl)) fun σ H R h => ?_
  refine two_ h keepT fun O Z x y e2 v u H2 Z2 U1 U2 O2 g he r1 r2 s hd => ?_
  cases x <;> first | exact hd.elim | skip
  cases y <;> first | exact hd.elim | skip
  rename_i i j
  obtain ⟨rfl, rfl⟩ := int_of r1
  obtain ⟨rfl, rfl⟩ := int_of r2
  obtain ⟨ts, hts, hd⟩ := den_of hd
  obtain ⟨hb, rfl⟩ := rangeT_len hts
  exact ⟨i, j, rfl, hb, hd _ H2 Z2 [] O2 he ⟨rfl, isFs_ints _ _, itR⟩ s⟩
/-! #### zip -/
theorem isFs_zip {xs ys : List T} (hx : isFs xs = true) (hy : isFs ys = true) : isFs ((xs.zip ys).map fun q => T.tup [q.1, q.2]) = true := by
  rw [isFs_mem] at hx hy ⊢
  intro t ht
  obtain ⟨q, hq, e⟩ := List.mem_map.mp ht
  obtain ⟨h1, h2⟩ := List.of_mem_zip hq
  rw [← e]
  show isFs [q.1, q.2] = true
  simp [isFs, hx _ h1, hy _ h2]
theorem zip_at {xs ys : List T} {i : Nat} {t : T} (h : ((xs.zip ys).map fun q => T.tup [q.1, q.2])[i]? = some t) : ∃ x y, xs[i]? = some x ∧ ys[i]? = some y ∧ t = .tup [x, y] := by
  rw [List.getElem?_map] at h
  obtain ⟨q, hq, e⟩ := map_some h
  rw [List.getElem?_zip_eq_some] at hq
  exact ⟨q.1, q.2, hq.1, hq.2, e.symm⟩
theorem pair_new {Y : Par} {H' : Hp} {Z' : ZP} {t : Addr} {v w : V} {x y : T} (g : Good H' Z' []) (ht : H' t = none) (rv : Rep Y.Cl H' Z' x v []) (rw' : Rep Y.Cl H' Z' y w []) : Rep Y.Cl (upd H' t (.tup [v, w])) Z' (.tup [x, y]) (.ref t) [] ∧ Step [] H' Z' (upd H' t (.tup [v, w])) Z' [] [] := by
  refine ⟨?_, (Step.refl g).new ht⟩
  have k : Keep [] H' Z' (upd H' t (.tup [v, w])) Z' := new_keep g ht
  unfold Rep
  refine ⟨t, [v, w], rfl, upd_same, ?_⟩
  unfold Reps
  refine ⟨v, [w], [], [], rfl, Rep.keep x rv k, ?_, rfl⟩
  exact Reps.one (Rep.keep y rw' k)
theorem itZ {Y : Par} {ts us : List T} {vs ws : List V} {q1 q2 : Addr} (z1 : Z q1) (h1 : Rd H q1 (.lst vs)) (r1 : Reps Y.Cl H Z ts vs []) (f1 : isFs ts = true) (z2 : Z q2) (h2 : Rd H q2 (.lst ws)) (r2 : Reps Y.Cl H Z us ws []) (f2 : isFs us = true) :
    ItOk Y ((ts.zip us).map fun q => T.tup [q.1, q.2]) (Itz K q1 q2) H Z := by
  intro H' Z' k g i
  have h1' := rd_keep k z1 h1
  have h2' := rd_keep k z2 h2
  have r1' := Reps.keep ts r1 k
  have r2' := Reps.keep us r2 k
  refine ⟨fun hi => ⟨vs, ws, rd_sq h1', rd_sq h2', ?_⟩, fun t ht => ?_⟩
  · rw [← r1.len, ← r2.len]
    rw [List.length_map, List.length_zip] at hi
    omega
  · obtain ⟨x, y, hx, hy, rfl⟩ := zip_at ht
    obtain ⟨v, _, _, _, e1, _⟩ := r1'.at_ hx
    obtain ⟨w, _, _, _, e2, _⟩ := r2'.at_ hy
    refine ⟨⟨vs, ws, v, w, rd_sq h1', rd_sq h2', e1, e2⟩, fun u H'' hyl => ?_⟩
    obtain ⟨T0, x0, y0, rfl, hT, rfl, hx0, hy0⟩ := hyl
    have ex := hx0 vs (rd_sq h1')
    have ey := hy0 ws (rd_sq h2')
    exact pair_new g hT (r1'.mem f1 hx ex) (r2'.mem f2 hy ey)
theorem itZT {Y : Par} {ts us : List T} {vs ws : List V} {q1 q2 : Addr} (h1 : H q1 = some (.tup vs)) (r1 : Reps Y.Cl H Z ts vs []) (f1 : isFs ts = true) (h2 : H q2 = some (.tup ws)) (r2 : Reps Y.Cl H Z us ws []) (f2 : isFs us = true) :
    ItOk Y ((ts.zip us).map fun q => T.tup [q.1, q.2]) (RZ.ItzT K q1 q2) H Z := by
  intro H' Z' k g i
  have h1' := k.tup _ _ h1
  have h2' := k.tup _ _ h2
  have r1' := Reps.keep ts r1 k
  have r2' := Reps.keep us r2 k
  refine ⟨fun hi => ⟨vs, ws, sq_tup h1', sq_tup h2', ?_⟩, fun t ht => ?_⟩
  · rw [← r1.len, ← r2.len]
    rw [List.length_map, List.length_zip] at hi
    omega
  · obtain ⟨x, y, hx, hy, rfl⟩ := zip_at ht
    obtain ⟨v, _, _, _, e1, _⟩ := r1'.at_ hx
    obtain ⟨w, _, _, _, e2, _⟩ := r2'.at_ hy
    refine ⟨⟨vs, ws, v, w, sq_tup h1', sq_tup h2', e1, e2⟩, fun u H'' hyl => ?_⟩
    obtain ⟨T0, x0, y0, rfl, hT, rfl, hx0, hy0⟩ := hyl
    have ex := hx0 vs (sq_tup h1')
    have ey := hy0 ws (sq_tup h2')
    exact pair_new g hT (r1'.mem f1 hx ex) (r2'.mem f2 hy ey)
abbrev zipF (fa fb : Env → Iv.R T) : Env → Iv.R (List T) := fun e => (fa e).bind fun x e => (fb e).bind fun y e => (match x, y with
    | .lst _ xs, .lst _ ys => .ok (((frzs xs).zip (frzs ys)).map fun p => .tup [p.1, p.2]) e
    | .tup xs, .tup ys => .ok (((frzs xs).zip (frzs ys)).map fun p => .tup [p.1, p.2]) e
    | _, _ => .bad)
theorem i_zip {tes : List Expr} {kk : Nat} {tpos : Pos} (hg : Gl X "zip") (hm : X.mg "zip" = none) (ha : PE X a (ET Y W fa)) (hb : PE X b (ET Y W fb)) (hs : notStar a = true) (hs2 : notStar b = true) : PI X (.Tuple tes kk tpos) (.Call (.Name "zip" p) [a, b] [] pos) (EI Y W (zipF fa fb)) := by
  refine PI.imp (RZ.pi_zipA hg hm (pa_cons ha (pa_cons hb pa_nil (star_cons hs2)) (star_cons hs)) (star_cons hs) (star_any (by simp [hs2]))) fun σ H R h => ?_
  refine two_ h keepT fun O Z x y e2 v u H2 Z2 U1 U2 O2 g he r1 r2 s hd => ?_
  have s2 : Step O H Z H2 (zadd Z2 (U1 ++ U2)) [] O2 := Step.frz (U2 := []) (by simpa using s)
  have he' := he.keep (Z' := zadd Z2 (U1 ++ U2)) (freeze_keep (F := U1 ++ U2))
  cases x <;> first | exact hd.elim | skip
  · cases y <;> first | exact hd.elim | skip
    rename_i ts us
    obtain ⟨q1, vs, rfl, h1, rr1⟩ := tup_of (Rep.frz (Z' := zadd Z2 (U1 ++ U2)) (.tup ts) r1 (fun a z => .inl z) fun a ha => .inr (List.mem_append_left _ ha))
    obtain ⟨q2, ws, rfl, h2, rr2⟩ := tup_of (Rep.frz (Z' := zadd Z2 (U1 ++ U2)) (.tup us) r2 (fun a z => .inl z) fun a ha => .inr (List.mem_append_right _ ha))
    exact ⟨q1, q2, vs, ws, rfl, .inr ⟨sq_tup h1, sq_tup h2, hd _ H2 _ [] O2 he' ⟨rfl, isFs_zip (isFs_frzs _) (isFs_frzs _), itZT h1 rr1 (isFs_frzs _) h2 rr2 (isFs_frzs _)⟩ s2⟩⟩
  · cases y <;> first | exact hd.elim | skip
    rename_i o1 ts o2 us
    have f1 := Rep.frz (Z' := zadd Z2 (U1 ++ U2)) (.lst o1 ts) r1 (fun a z => .inl z) fun a ha => .inr (List.mem_append_left _ ha)
    have f2 := Rep.frz (Z' := zadd Z2 (U1 ++ U2)) (.lst o2 us) r2 (fun a z => .inl z) fun a ha => .inr (List.mem_append_right _ ha)
    unfold frz Rep at f1 f2
    obtain ⟨q1, vs, rfl, z1, h1, rr1, _⟩ := f1
    obtain ⟨q2, ws, rfl, z2, h2, rr2, _⟩ := f2
    exact ⟨q1, q2, vs, ws, rfl, .inl ⟨rd_sq h1, rd_sq h2, hd _ H2 _ [] O2 he' ⟨rfl, isFs_zip (isFs_frzs _) (isFs_frzs _), itZ z1 h1 rr1 (isFs_frzs _) z2 h2 rr2 (isFs_frzs _)⟩ s2⟩⟩
end
end Iv
set_option Elab.async false
set_option linter.all false
set_option maxRecDepth 100000
namespace Iv
open PySem PySem.Spec PyProof.Rows L2
section
variable {Y : Par} {σ : L2.St} {H : Hp} {W : WX} {Cl : Pr} {Z : ZP} {K : PySem.W.Frag} {P : Nat → Prop} {io : Bool}
variable {X : Cx} {a b c tg : Expr} {es : List Expr} {pos p : Pos} {fa fb fc : Env → Iv.R T} {fs : Env → Iv.R (List T)}
/-! ### targets -/
/-- the slots of P stay -/
def Fix (P : Nat → Prop) (σ σ' : L2.St) : Prop := σ'.length = σ.length ∧ ∀ i, P i → σ'[i]? = σ[i]?
theorem Fix.refl : Fix P σ σ := ⟨rfl, fun _ _ => rfl⟩
theorem Fix.trans {σ1 σ2 : L2.St} (h : Fix P σ σ1) (h2 : Fix P σ1 σ2) : Fix P σ σ2 := ⟨h2.1.trans h.1, fun i hi => (h2.2 i hi).trans (h.2 i hi)⟩
theorem Fix.set {i : Nat} {x : Option V} (h : ¬ P i) : Fix P σ (σ.set i x) := ⟨by rw [List.length_set], fun j hj => by
  rw [List.getElem?_set_ne]
  rintro rfl
  exact h hj⟩
def okT (Y : Par) (P : Nat → Prop) (σ : L2.St) (O : List Addr) (H : Hp) (Z : ZP) (Q : L2.St → Hp → Prop) : Unit → Env → Prop := fun _ e =>
  ∀ σ' H' Z' O', EnvR Y.Cl H' Z' e σ' O' → Fix P σ σ' → Step O H Z H' Z' [] O' → Q σ' H'
def exT (Y : Par) (W : WX) (P : Nat → Prop) (σ : L2.St) (O : List Addr) (H : Hp) (Z : ZP) : Nat → T → Env → Prop := fun c p e =>
  ∀ σ' cls d H' Z' O', EnvR Y.Cl H' Z' e σ' O' → Fix P σ σ' → Y.EX c p cls d H' Z' → Step O H Z H' Z' [] O' → W cls d σ' H'
abbrev DenT (Y : Par) (W : WX) (P : Nat → Prop) (σ : L2.St) (O : List Addr) (H : Hp) (Z : ZP) (Q : L2.St → Hp → Prop) (r : Iv.R Unit) : Prop := Den0 (okT Y P σ O H Z Q) (exT Y W P σ O H Z) r
def tT (Y : Par) (W : WX) (P : Nat → Prop) (f : T → Env → Iv.R Unit) : TG := fun v σ H Q =>
  ∃ t e Z O U, EnvR Y.Cl H Z e σ O ∧ Rep Y.Cl H Z t v U ∧ Good H Z (U ++ O) ∧ DenT Y W P σ (U ++ O) H Z Q (f t e)
def tTs (Y : Par) (W : WX) (P : Nat → Prop) (f : List T → Env → Iv.R Unit) : TGs := fun vs σ H Q =>
  ∃ ts e Z O U, EnvR Y.Cl H Z e σ O ∧ Reps Y.Cl H Z ts vs U ∧ Good H Z (U ++ O) ∧ DenT Y W P σ (U ++ O) H Z Q (f ts e)
theorem exT.exW {c : Nat} {p : T} {e : Env} {O : List Addr} (h : exT Y W P σ O H Z c p e) : exW Y W σ O H Z c p e := fun cls d H' Z' O' h1 h2 h3 => h σ cls d H' Z' O' h1 Fix.refl h2 h3
/-- an expression within a target or a statement -/
theorem onT {α β γ : Type} {R1 : Rl α β} {O O1 U1 : List Addr} {H1 : Hp} {Z1 : ZP} {e1 : Env} {f : Env → Iv.R α} {k : α → Env → Iv.R γ} {okF : γ → Env → Prop} {Q2 : β → Hp → Prop} {σ0 : L2.St}
    (s : Step O H Z H1 Z1 U1 O1) (he : EnvR Y.Cl H1 Z1 e1 σ O1) (fx : Fix P σ0 σ) (h : Den0 okF (exT Y W P σ0 O H Z) ((f e1).bind k))
    (hk : ∀ b e2 y H2 Z2 U2 O2, EnvR Y.Cl H2 Z2 e2 σ O2 → R1 H2 Z2 b y U2 → Step O1 H1 Z1 H2 Z2 U2 O2 → Step O H Z H2 Z2 (U1 ++ U2) O2 → Keep U1 H1 Z1 H2 Z2 → Den0 okF (exT Y W P σ0 O H Z) (k b e2) → Q2 y H2) :
    tE Y R1 W f σ H1 Q2 := by
  refine ⟨e1, Z1, O1, he, s.goodO, ?_⟩
  rw [den_bind] at h
  refine den_imp h (fun b e2 hd y H2 Z2 U2 O2 h1 h2 h3 => hk b e2 y H2 Z2 U2 O2 h1 h2 h3 (s.trans h3) (s.handKeep h3) hd) fun c p e hx => ?_
  exact fun cls d H' Z' O' h1 h2 h3 => hx σ cls d H' Z' O' h1 fx h2 (s.trans h3).drop
theorem Step.hand {O U : List Addr} (g : Good H Z (U ++ O)) : Step (U ++ O) H Z H Z U O := (Step.refl g).perm (by simp)
theorem setNm_ok {i : Nat} {t : T} {e : Env} {ok : Unit → Env → Prop} {ex : Nat → T → Env → Prop} (h : Den0 ok ex (setNm io i t e)) : (io && i == 0) = false ∧ i < e.length ∧ ok () (e.set i (some t)) := by
  unfold setNm at h
  split at h
  · exact h.elim
  · rename_i hc
    simp only [Bool.or_eq_true, decide_eq_true_eq, not_or] at hc
    exact ⟨by simpa using hc.1, by omega, h⟩
/-- a slot is stored -/
theorem put_ {i : Nat} {t : T} {v : V} {e : Env} {O U O0 : List Addr} {H0 : Hp} {Z0 : ZP} (he : EnvR Y.Cl H Z e σ O) (hl : i < e.length) (r : Rep Y.Cl H Z t v U) (s : Step O0 H0 Z0 H Z U O) :
    ∃ O', EnvR Y.Cl H Z (e.set i (some t)) (σ.set i (some v)) O' ∧ Step O0 H0 Z0 H Z [] O' := by
  obtain ⟨Od, Or, hp, hn, _⟩ := env_drop he (i := i) none
  obtain ⟨O', pp, h'⟩ := env_set hn hl r
  refine ⟨O', h', s.few (D := Od) ?_⟩
  rw [List.nil_append]
  have p1 := List.perm_iff_count.mp hp
  have p2 := List.perm_iff_count.mp pp
  rw [List.perm_iff_count]; intro x; have := p1 x; have := p2 x; simp only [List.count_append] at *; omega
theorem g_name {i : Nat} {x : Str} (hN : X.N.Nodup) (hi : X.N[i]? = some x) (hx : Loc X.env.scope x) (hf : X.fn x = true ∨ X.env.scope.names.lookup x = some .local) (hP : (io && i == 0) = false → ¬ P i) :
    PG X (.Name x pos) (tT Y W P fun t e => setNm io i t e) := by
  refine PG.imp (pg_name hN hi hx hf) fun v σ H Q ⟨t, e, Z, O, U, he, r, g, hd⟩ => ?_
  obtain ⟨h1, h2, hd⟩ := setNm_ok hd
  obtain ⟨O', he', s⟩ := put_ he h2 r (Step.hand g)
  exact hd _ H Z O' he' (Fix.set (hP h1)) s
theorem gs_nil : PGs X [] (tTs Y W P fun ts e => (match ts with
    | [] => .ok () e
    | _ => .bad)) := by
  refine ⟨fun pins s σ H vs us Q I r ⟨ts, e, Z, O, U, he, rr, g, hd⟩ => ?_⟩
  cases ts with
  | cons _ _ => exact hd.elim
  | nil =>
    unfold Reps at rr
    obtain ⟨rfl, rfl⟩ := rr
    exact pgs_nil.run pins s σ H [] us Q I r ⟨rfl, hd σ H Z O he Fix.refl (Step.refl g)⟩
theorem gs_cons {f : T → Env → Iv.R Unit} {fs : List T → Env → Iv.R Unit} (h1 : PG X a (tT Y W P f)) (h2 : PGs X es (tTs Y W P fs)) (hs : (assignEach (a :: es) X.env).map (·.2) = assign a X.env :: (assignEach es X.env).map (·.2)) :
    PGs X (a :: es) (tTs Y W P fun ts e => (match ts with
    | u :: us => (f u e).bind fun _ e => fs us e
    | _ => .bad)) := by
  refine ⟨fun pins s σ H vs us Q I r ⟨ts, e, Z, O, U, he, rr, g, hd⟩ => ?_⟩
  cases ts with
  | nil => exact hd.elim
  | cons t ts =>
    unfold Reps at rr
    obtain ⟨v, w, U1, U2, rfl, r1, r2, rfl⟩ := rr
    have gp : (U1 ++ U2 ++ O).Perm ((U1 ++ O) ++ U2) := by rw [List.perm_iff_count]; intro x; simp only [List.count_append]; omega
    have g2 := g.perm gp
    have g1 : Good H Z (U1 ++ O) := g2.sub (nodup_app.mp g2.nd).1 fun a ha => List.mem_append_left _ ha
    refine (pgs_cons h1 h2 hs).run pins s σ H (v :: w) us Q I r ⟨v, w, rfl, t, e, Z, O, U1, he, r1, g1, ?_⟩
    have hd : DenT Y W P σ (U1 ++ U2 ++ O) H Z Q ((f t e).bind fun _ e => fs ts e) := hd
    unfold DenT at hd
    rw [den_bind] at hd
    refine den_imp hd (fun _ e1 hd1 σ1 H1 Z1 O1 he1 fx s1 => ?_) fun c p e1 hx σ1 cls d H1 Z1 O1 he1 fx ex s1 => ?_
    · have s2 := (s1.frame (B := U2) g2).permL gp.symm
      have k2 := s1.frameKeep (B := U2) g2
      have s3 : Step (U1 ++ U2 ++ O) H Z H1 Z1 U2 O1 := s2.perm (by rw [List.perm_iff_count]; intro x; simp only [List.count_append, List.nil_append]; omega)
      refine ⟨ts, e1, Z1, O1, U2, he1, r2.keep _ k2, s3.good, ?_⟩
      refine den_imp hd1 (fun _ e2 hok σ2 H2 Z2 O2 he2 fx2 s4 => hok σ2 H2 Z2 O2 he2 (fx.trans fx2) ?_) fun c p e2 hx σ2 cls d H2 Z2 O2 he2 fx2 ex s4 => hx σ2 cls d H2 Z2 O2 he2 (fx.trans fx2) ex ?_
      · exact (s3.perm (U2 := []) (O2 := U2 ++ O1) (by simp)).trans s4
      · exact (s3.perm (U2 := []) (O2 := U2 ++ O1) (by simp)).trans s4
    · have s2 := (s1.frame (B := U2) g2).permL gp.symm
      exact hx σ1 cls d H1 Z1 O1 he1 fx ex (s2.few (D := U2) (by rw [List.perm_iff_count]; intro x; simp only [List.count_append, List.nil_append]; omega))
theorem g_tp {k n : Nat} {f : List T → Env → Iv.R Unit} (hc : X.calm = true) (h : PGs X es (tTs Y W P f)) (hn : (assignEach es X.env).length = n) (hst : (assignEach es X.env).findIdx? (·.1) = none) {m : Nat} (hm : m = n) :
    PG X (.Tuple es k pos) (tT Y W P fun t e => (match t with
    | .tup us => if us.length = m then f us e else .bad
    | _ => .bad)) := by
  refine PG.imp (pg_tup (n := n) hc h hn hst) fun v σ H Q ⟨t, e, Z, O, U, he, r, g, hd⟩ => ?_
  cases t <;> first | exact hd.elim | skip
  rename_i us
  obtain ⟨q, xs, rfl, hq, rr⟩ := tup_of r
  have hd : DenT Y W P σ (U ++ O) H Z Q (if us.length = m then f us e else .bad) := hd
  by_cases hl : us.length = m
  · rw [if_pos hl] at hd
    exact ⟨q, xs, rfl, sq_tup hq, by rw [← rr.len, hl, hm], us, e, Z, O, U, he, rr, g, hd⟩
  · rw [if_neg hl] at hd; exact hd.elim
/-! #### writing a list -/
theorem upd_keep {q : Addr} {o : HO} {T1 : List Addr} {xs : List V} (hq : H q = some (.lst xs)) (hz : ¬ Z q) (h : q ∉ T1) : Keep T1 H Z (upd H q o) Z where
  tup := fun a vs e => by rw [upd_ne (ne_of e hq (by simp))]; exact e
  zk := fun a z => upd_ne fun e => hz (e ▸ z)
  zz := fun _ z => z
  own := fun a ha => upd_ne fun e => h (e ▸ ha)
theorem Step.write {O U O1 : List Addr} {H1 : Hp} {Z1 : ZP} {q : Addr} {o : HO} (s : Step O H Z H1 Z1 U O1) (hq : q ∈ U ++ O1) (m : Mut (some o)) : Step O H Z (upd H1 q o) Z1 U O1 := by
  refine ⟨fun a h1 h2 => ?_, fun a h1 => ?_, s.zz, s.zn, ⟨s.good.nd, s.good.nz, fun a ha => ?_, fun a z => ?_⟩, s.sub⟩
  · have : a ≠ q := by
      rintro rfl
      rcases s.sub a hq with h | h
      · exact h2 h
      · exact h1 h
    rw [upd_ne this]; exact s.keep a h1 h2
  · by_cases e : a = q
    · subst e; rw [upd_same]; simp
    · rw [upd_ne e]; exact s.there a h1
  · by_cases e : a = q
    · subst e; rw [upd_same]; exact m
    · rw [upd_ne e]; exact s.good.live a ha
  · by_cases e : a = q
    · subst e; rw [upd_same]; simp
    · rw [upd_ne e]; exact s.good.zl a z
/-- the list in slot x is written: from ts to us -/
theorem wr_ {i : Nat} {us : List T} {vs ws : List V} {v0 : V} {e : Env} {q : Addr} {O0 O U Oi Oj Or D : List Addr} {H0 : Hp} {Z0 : ZP} (hv : σ[i]? = some (some v0)) (hl : i < e.length) (ev : v0 = .ref q) (hq : H q = some (.lst vs)) (s : Step O0 H0 Z0 H Z U O) (hp : O.Perm ((q :: Oi) ++ Or)) (hn : EnvR Cl H Z (e.set i none) σ Or)
    (hr : Reps Cl H Z us ws Oj) (hj : (U ++ Oi).Perm (D ++ Oj)) : ∃ O', EnvR Cl (upd H q (.lst ws)) Z (e.set i (some (.lst true us))) σ O' ∧ Step O0 H0 Z0 (upd H q (.lst ws)) Z [] O' := by
  subst ev
  have g := s.good
  have hqO : q ∈ U ++ O := List.mem_append_right _ (hp.mem_iff.mpr (by simp))
  have hnz : ¬ Z q := g.nz q hqO
  have pa : (U ++ O).Perm (q :: (D ++ (Oj ++ Or))) := by
    have p1 := List.perm_iff_count.mp hp
    have p2 := List.perm_iff_count.mp hj
    rw [List.perm_iff_count]; intro x; have := p1 x; have := p2 x; simp only [List.count_append, List.count_cons] at *; omega
  have nd := pa.nodup g.nd
  have hqn := (List.nodup_cons.mp nd).1
  have k1 : Keep Oj H Z (upd H q (.lst ws)) Z := upd_keep hq hnz fun h => hqn (by simp [h])
  have k2 : Keep Or H Z (upd H q (.lst ws)) Z := upd_keep hq hnz fun h => hqn (by simp [h])
  have rr : Rep Cl (upd H q (.lst ws)) Z (.lst true us) (.ref q) (q :: Oj) := by
    unfold Rep
    exact ⟨q, ws, Oj, rfl, upd_same, hr.keep _ k1, rfl⟩
  obtain ⟨O', pp, h'⟩ := env_put (hn.keep k2) hl hv rr
  refine ⟨O', h', (s.write (o := .lst ws) hqO trivial).few (D := D) ?_⟩
  have p1 := List.perm_iff_count.mp pa
  have p2 := List.perm_iff_count.mp pp
  rw [List.perm_iff_count]; intro x; have := p1 x; have := p2 x; simp only [List.count_append, List.count_cons, List.nil_append] at *; omega
theorem setIx_ok {x : Nat} {i t : T} {e : Env} {ok : Unit → Env → Prop} {ex : Nat → T → Env → Prop} (h : Den0 ok ex (setIx x i t e)) : ∃ ts k j, gt e x = some (.lst true ts) ∧ i = .int k ∧ ixN ts.length k = some j ∧ ok () (e.set x (some (.lst true (ts.set j t)))) := by
  unfold setIx at h
  split at h
  · rename_i ts k hg
    cases q : ixN ts.length k with
    | none => rw [q] at h; exact h.elim
    | some j => rw [q] at h; exact ⟨ts, k, j, hg, rfl, q, h⟩
  · exact h.elim
theorem ixN_lt {n : Nat} {k : Int} {j : Nat} (h : ixN n k = some j) : j < n := (ixN_seq h).2.1
/-- the store itself, behind all readings -/
theorem set_core {x : Nat} {i t : T} {e : Env} {v v0 iv : V} {O0 O U Ui : List Addr} {H0 : Hp} {Z0 : ZP} {ex : Nat → T → Env → Prop} {Q : Hp → Prop} (hv : σ[x]? = some (some v0)) (he : EnvR Y.Cl H Z e σ O) (rt : Rep Y.Cl H Z t v U) (ri : Rep Y.Cl H Z i iv Ui) (s : Step O0 H0 Z0 H Z U O)
    (hd : Den0 (fun _ e' => ∀ H' O', EnvR Y.Cl H' Z e' σ O' → Step O0 H0 Z0 H' Z [] O' → Q H') ex (setIx x i t e)) : rSetL v0 iv v H Q := by
  obtain ⟨ts, k, j, hg, rfl, hj, hd⟩ := setIx_ok hd
  obtain ⟨rfl, rfl⟩ := int_of ri
  obtain ⟨Oi, Or, rl, hp, hn⟩ := slot_at hv he hg
  obtain ⟨q, vs, O', rfl, hq, rr, rfl⟩ := lstT_of rl
  obtain ⟨A, B, C, e1, rr2⟩ := rr.set (ixN_lt hj) rt
  refine ⟨q, vs, k, j, rfl, rfl, hq, by rw [← rr.len]; exact hj, ?_⟩
  obtain ⟨O2, h1, h2⟩ := wr_ (D := B) hv (gt_lt hg) rfl hq s hp hn rr2 (by rw [e1, List.perm_iff_count]; intro x; simp only [List.count_append]; omega)
  exact hd _ O2 h1 h2
theorem g_ix {x : Nat} (hx : PE X a (tVar x)) (hi : PE X b (ET Y W fb))
    (ha : ∀ v, assign (.Subscript a b pos) X.env v = (do
      let ov ← holding [v] (eval a X.env)
      let iv ← holding [v, ov] (eval b X.env)
      standAt pos
      holding [v, ov, iv] (setItem ov iv v)
      release [v, ov, iv] [])) : PG X (.Subscript a b pos) (tT Y W P fun t e => has e x ((fb e).bind fun k e => setIx x k t e)) := by
  refine PG.imp (pg_sub hx hi set_list ha) fun v σ H Q ⟨t, e, Z, O, U, he, r, g, hd⟩ => ?_
  obtain ⟨⟨t0, q0⟩, hd⟩ := has_ hd
  obtain ⟨v0, hv⟩ := slot_of he q0
  refine ⟨v0, hv, ?_⟩
  refine onT (R1 := RT Y) (Step.hand g) he Fix.refl hd fun k e2 iv H2 Z2 U2 O2 he2 r2 s2 s3 kk hd => ?_
  have e0 : U2 = [] := by
    obtain ⟨_, k', _, _, rfl, _⟩ := setIx_ok hd
    exact (int_of r2).2
  subst e0
  rw [List.append_nil] at s3
  refine set_core hv he2 (Rep.keep t r kk) r2 s3 (den_imp hd (fun _ e3 hok H' O' h1 h2 => ?_) fun _ _ _ z => z)
  exact hok σ H' Z2 O' h1 Fix.refl h2
theorem setIx2_ok {x : Nat} {i j t : T} {e : Env} {ok : Unit → Env → Prop} {ex : Nat → T → Env → Prop} (h : Den0 ok ex (setIx2 x i j t e)) : ∃ ts us k l n m, gt e x = some (.lst true ts) ∧ i = .int k ∧ j = .int l ∧ ixN ts.length k = some n ∧ ts[n]? = some (.lst true us) ∧ ixN us.length l = some m ∧
    ok () (e.set x (some (.lst true (ts.set n (.lst true (us.set m t)))))) := by
  unfold setIx2 at h
  split at h
  · rename_i ts k l hg
    cases q : ixN ts.length k with
    | none => rw [q] at h; exact h.elim
    | some n =>
      simp only [q] at h
      cases q2 : ts[n]? with
      | none => rw [q2] at h; exact h.elim
      | some u =>
        simp only [q2] at h
        cases u <;> first | exact h.elim | skip
        rename_i o us
        cases o with
        | false => exact h.elim
        | true =>
          simp only at h
          cases q3 : ixN us.length l with
          | none => rw [q3] at h; exact h.elim
          | some m => rw [q3] at h; exact ⟨ts, us, k, l, n, m, hg, rfl, rfl, q, q2, q3, h⟩
  · exact h.elim
theorem g_ix2 {x : Nat} {j : E} {pos2 : Pos} (hs : PlainIx b) (hx : PE X a (tVar x)) (hi : PE X b (ET Y W fb)) (hj : PE X c (tPv Y (pv j)))
    (ha : ∀ v, assign (.Subscript (.Subscript a b pos) c pos2) X.env v = (do
      let ov ← holding [v] (eval (.Subscript a b pos) X.env)
      let iv ← holding [v, ov] (eval c X.env)
      standAt pos2
      holding [v, ov, iv] (setItem ov iv v)
      release [v, ov, iv] [])) : PG X (.Subscript (.Subscript a b pos) c pos2) (tT Y W P fun t e => has e x ((fb e).bind fun k e => (match pv j e with
    | some l => setIx2 x k (.int l) t e
    | none => .bad))) := by
  refine PG.imp (pg_sub (pe_ix ix_seq hx hi hs) hj set_list ha) fun v σ H Q ⟨t, e, Z, O, U, he, r, g, hd⟩ => ?_
  obtain ⟨⟨t0, q0⟩, hd⟩ := has_ hd
  obtain ⟨v0, hv⟩ := slot_of he q0
  refine ⟨v0, hv, ?_⟩
  refine onT (R1 := RT Y) (Step.hand g) he Fix.refl hd fun k e2 iv H2 Z2 U2 O2 he2 r2 s2 s3 kk hd => ?_
  cases ql : pv j e2 with
  | none => rw [ql] at hd; exact hd.elim
  | some l =>
    rw [ql] at hd
    obtain ⟨ts, us, k', l', n, m, hg, rfl, hl', hn, hu, hm, hd⟩ := setIx2_ok hd
    cases hl'
    obtain ⟨rfl, rfl⟩ := int_of r2
    rw [List.append_nil] at s3
    have rt := Rep.keep t r kk
    obtain ⟨Oi, Or, rl, hp, hne⟩ := slot_at hv he2 hg
    obtain ⟨q, vs, O', rfl, hq, rr, rfl⟩ := lstT_of rl
    obtain ⟨w, A, B, C, w1, w2, w3, w4, w5⟩ := rr.at_ hu
    obtain ⟨q2, ys, B', rfl, hq2, rr2, rfl⟩ := lstT_of w2
    refine rIx_of (.inl (rd_sq (.inl hq))) (w := .ref q2) (by unfold atI; rw [← rr.len, hn]; exact w1) ⟨e2, Z2, O2, l, he2, ql, ?_⟩
    obtain ⟨A2, B2, C2, z1, z2⟩ := rr2.set (ixN_lt hm) rt
    refine ⟨q2, ys, l, m, rfl, rfl, hq2, by rw [← rr2.len]; exact hm, ?_⟩
    -- what is owned, all in all
    have pa : (U ++ O2).Perm (q2 :: (B2 ++ (q :: (A ++ (A2 ++ U ++ C2) ++ C) ++ Or))) := by
      have p1 := List.perm_iff_count.mp hp
      subst w3 z1
      rw [List.perm_iff_count]; intro x; have := p1 x; simp only [List.count_append, List.count_cons] at *; omega
    have gd := s3.good
    have nd := pa.nodup gd.nd
    have hq2O : q2 ∈ U ++ O2 := pa.mem_iff.mpr List.mem_cons_self
    have hnz : ¬ Z2 q2 := gd.nz q2 hq2O
    have hqn := (List.nodup_cons.mp nd).1
    have kq : ∀ T1 : List Addr, (∀ a ∈ T1, a ∈ B2 ++ (q :: (A ++ (A2 ++ U ++ C2) ++ C) ++ Or)) → Keep T1 H2 Z2 (upd H2 q2 (.lst (ys.set m v))) Z2 := fun T1 h => upd_keep hq2 hnz fun hm => hqn (h _ hm)
    have rin : Rep Y.Cl (upd H2 q2 (.lst (ys.set m v))) Z2 (.lst true (us.set m t)) (.ref q2) (q2 :: (A2 ++ U ++ C2)) := by
      unfold Rep
      exact ⟨q2, _, _, rfl, upd_same, z2.keep _ (kq _ fun a ha => by simp only [List.mem_append, List.mem_cons] at ha ⊢; grind), rfl⟩
    have hqq : q ≠ q2 := fun e => hqn (by rw [← e]; simp)
    have rA := w4.keep _ (kq _ fun a ha => by simp only [List.mem_append, List.mem_cons]; grind)
    have rC := w5.keep _ (kq _ fun a ha => by simp only [List.mem_append, List.mem_cons]; grind)
    have hnt : n < ts.length := ixN_lt hn
    have hnv : n < vs.length := by rw [← rr.len]; exact hnt
    have rout : Reps Y.Cl (upd H2 q2 (.lst (ys.set m v))) Z2 (ts.set n (.lst true (us.set m t))) vs (A ++ (q2 :: (A2 ++ U ++ C2)) ++ C) := by
      have ev : vs = vs.take n ++ .ref q2 :: vs.drop (n + 1) := by
        have e1 : vs[n]? = some (.ref q2) := w1
        rw [List.getElem?_eq_getElem hnv] at e1
        have e1 := Option.some.inj e1
        conv => lhs; rw [← List.take_append_drop n vs]
        rw [List.drop_eq_getElem_cons hnv, e1]
      have es : ts.set n (.lst true (us.set m t)) = ts.take n ++ .lst true (us.set m t) :: ts.drop (n + 1) := by
        rw [List.set_eq_take_append_cons_drop, if_pos hnt]
      rw [es, ev, List.append_assoc]
      refine rA.app ?_
      unfold Reps
      exact ⟨.ref q2, _, _, C, rfl, rin, rC, rfl⟩
    have rl2 : Rep Y.Cl (upd H2 q2 (.lst (ys.set m v))) Z2 (.lst true (ts.set n (.lst true (us.set m t)))) (.ref q) (q :: (A ++ (q2 :: (A2 ++ U ++ C2)) ++ C)) := by
      unfold Rep
      exact ⟨q, vs, _, rfl, by rw [upd_ne hqq]; exact hq, rout, rfl⟩
    obtain ⟨O3, pp, h'⟩ := env_put (hne.keep (kq _ fun a ha => by simp only [List.mem_append, List.mem_cons]; grind)) (gt_lt hg) hv rl2
    refine hd σ _ Z2 O3 h' Fix.refl ((s3.write (o := .lst (ys.set m v)) hq2O trivial).few (D := B2) ?_)
    have p1 := List.perm_iff_count.mp pa
    have p2 := List.perm_iff_count.mp pp
    rw [List.perm_iff_count]; intro x; have := p1 x; have := p2 x; simp only [List.count_append, List.count_cons, List.nil_append] at *; omega
end
end Iv
set_option Elab.async false
set_option linter.all false
set_option maxRecDepth 100000
namespace Iv
open PySem PySem.Spec PyProof.Rows L2
section
variable {Y : Par} {σ : L2.St} {H : Hp} {W : WX} {Cl : Pr} {Z : ZP} {K : PySem.W.Frag} {P : Nat → Prop} {io : Bool}
variable {X : Cx} {a b c tg : Expr} {es : List Expr} {pos p : Pos}
abbrev Wf : WX := fun _ _ _ _ => False
abbrev FF : Nat → T → Env → Prop := fun _ _ _ => False
/-! ### wiped slots -/
theorem ewipe_len (e : Env) : ∀ vs : List Nat, (Iv.wipe e vs).length = e.length
  | [] => rfl
  | v :: vs => by unfold Iv.wipe; rw [List.length_set, ewipe_len e vs]
theorem ewipe_get (e : Env) : ∀ (vs : List Nat) (i : Nat), gt (Iv.wipe e vs) i = if i ∈ vs then none else gt e i
  | [], i => by simp [Iv.wipe]
  | v :: vs, i => by
    unfold Iv.wipe
    by_cases hv : v = i
    · subst hv
      by_cases hl : v < (Iv.wipe e vs).length
      · rw [gt_set_self hl]; simp
      · rw [List.set_eq_of_length_le (by omega)]
        have : gt (Iv.wipe e vs) v = none := by unfold gt; rw [List.getElem?_eq_none (by omega)]; rfl
        rw [this]; simp
    · rw [gt_set_ne hv, ewipe_get e vs i]
      have : (i ∈ v :: vs) ↔ i ∈ vs := by simp; intro h; exact absurd h.symm hv
      simp only [this]
theorem swipe_get (σ : L2.St) : ∀ (vs : List Nat) (i : Nat), (L2.wipe σ vs)[i]? = if i ∈ vs ∧ i < σ.length then some none else σ[i]?
  | [], i => by simp [L2.wipe]
  | v :: vs, i => by
    unfold L2.wipe
    by_cases hv : v = i
    · subst hv
      by_cases hl : v < (L2.wipe σ vs).length
      · have hl' : v < σ.length := by rw [← wipe_length σ vs]; exact hl
        rw [List.getElem?_set_self hl]; simp [hl']
      · have hl' : ¬ v < σ.length := by rw [← wipe_length σ vs]; exact hl
        rw [List.set_eq_of_length_le (by omega), List.getElem?_eq_none (by omega), List.getElem?_eq_none (by omega)]; simp [hl']
    · rw [List.getElem?_set_ne hv, swipe_get σ vs i]
      have : (i ∈ v :: vs) ↔ i ∈ vs := by simp; intro h; exact absurd h.symm hv
      simp only [this]
theorem swipe_eq {σ1 σ2 : L2.St} {vs : List Nat} (hl : σ1.length = σ2.length) (h : ∀ i, i ∉ vs → σ1[i]? = σ2[i]?) : L2.wipe σ1 vs = L2.wipe σ2 vs := by
  refine List.ext_getElem? fun i => ?_
  rw [swipe_get, swipe_get, hl]
  by_cases hi : i ∈ vs
  · by_cases hj : i < σ2.length
    · simp [hi, hj]
    · simp only [hi, hj, and_false, if_false]
      rw [List.getElem?_eq_none (by omega), List.getElem?_eq_none (by omega)]
  · simp [hi, h i hi]
theorem ewipe_eq {e1 e2 : Env} {vs : List Nat} (hl : e1.length = e2.length) (h : ∀ i, i ∉ vs → e1[i]? = e2[i]?) : Iv.wipe e1 vs = Iv.wipe e2 vs := by
  have key : ∀ (e : Env) (vs : List Nat) (i : Nat), (Iv.wipe e vs)[i]? = if i ∈ vs ∧ i < e.length then some none else e[i]? := by
    intro e vs
    induction vs with
    | nil => intro i; simp [Iv.wipe]
    | cons v vs ih =>
      intro i
      unfold Iv.wipe
      by_cases hv : v = i
      · subst hv
        by_cases hl : v < (Iv.wipe e vs).length
        · have hl' : v < e.length := by rw [← ewipe_len e vs]; exact hl
          rw [List.getElem?_set_self hl]; simp [hl']
        · have hl' : ¬ v < e.length := by rw [← ewipe_len e vs]; exact hl
          rw [List.set_eq_of_length_le (by omega), List.getElem?_eq_none (by omega), List.getElem?_eq_none (by omega)]; simp [hl']
      · rw [List.getElem?_set_ne hv, ih i]
        have : (i ∈ v :: vs) ↔ i ∈ vs := by simp; intro h; exact absurd h.symm hv
        simp only [this]
  refine List.ext_getElem? fun i => ?_
  rw [key, key, hl]
  by_cases hi : i ∈ vs
  · by_cases hj : i < e2.length
    · simp [hi, hj]
    · simp only [hi, hj, and_false, if_false]
      rw [List.getElem?_eq_none (by omega), List.getElem?_eq_none (by omega)]
  · simp [hi, h i hi]
theorem ewipe_out (e : Env) : ∀ (vs : List Nat) (i : Nat), i ∉ vs → (Iv.wipe e vs)[i]? = e[i]?
  | [], i, _ => rfl
  | v :: vs, i, h => by
    unfold Iv.wipe
    rw [List.getElem?_set_ne (fun e => h (by simp [e])), ewipe_out e vs i fun hm => h (List.mem_cons_of_mem _ hm)]
/-- wiped, on both sides -/
theorem env_wipe {e : Env} {O : List Addr} (h : EnvR Cl H Z e σ O) : ∀ vs : List Nat, ∃ Od Or, O.Perm (Od ++ Or) ∧ EnvR Cl H Z (Iv.wipe e vs) (L2.wipe σ vs) Or
  | [] => ⟨[], O, List.Perm.refl _, h⟩
  | v :: vs => by
    obtain ⟨Od, Or, p1, h1⟩ := env_wipe h vs
    obtain ⟨Od2, Or2, p2, _, h3⟩ := env_drop h1 (i := v) none
    refine ⟨Od ++ Od2, Or2, ?_, h3⟩
    have q1 := List.perm_iff_count.mp p1
    have q2 := List.perm_iff_count.mp p2
    rw [List.perm_iff_count]; intro x; have := q1 x; have := q2 x; simp only [List.count_append] at *; omega
/-- the slots that hold nothing may hold anything -/
theorem env_sig : ∀ {e : Env} {σ σ' : L2.St} {O : List Addr}, EnvR Cl H Z e σ O → σ'.length = σ.length → (∀ i t, gt e i = some t → σ'[i]? = σ[i]?) → EnvR Cl H Z e σ' O
  | [], σ, σ', O, h, hl, _ => by
    unfold EnvR at h ⊢
    rw [h.1] at hl
    exact ⟨List.eq_nil_of_length_eq_zero hl, h.2⟩
  | none :: e, σ, σ', O, h, hl, hs => by
    unfold EnvR at h ⊢
    obtain ⟨x, r, rfl, h⟩ := h
    cases σ' with
    | nil => simp at hl
    | cons y r' => exact ⟨y, r', rfl, env_sig h (by simpa using hl) fun i t hi => by have := hs (i + 1) t (by rw [gt_cons_succ]; exact hi); simpa using this⟩
  | some s :: e, σ, σ', O, h, hl, hs => by
    unfold EnvR at h ⊢
    obtain ⟨v, r, O1, O2, rfl, h1, h, h2⟩ := h
    cases σ' with
    | nil => simp at hl
    | cons y r' =>
      have h0 := hs 0 s (by rw [gt_cons_zero])
      have h0 : y = some v := by simpa using h0
      subst h0
      exact ⟨v, r', O1, O2, rfl, h1, env_sig h (by simpa using hl) fun i t hi => by have := hs (i + 1) t (by rw [gt_cons_succ]; exact hi); simpa using this, h2⟩
theorem restore_len (e0 e : Env) : ∀ vs : List Nat, (restore e0 e vs).length = e.length
  | [] => rfl
  | v :: vs => by unfold restore; rw [List.length_set, restore_len e0 e vs]
theorem restore_out (e0 e : Env) : ∀ (vs : List Nat) (i : Nat), i ∉ vs → (restore e0 e vs)[i]? = e[i]?
  | [], i, _ => rfl
  | v :: vs, i, h => by
    unfold restore
    rw [List.getElem?_set_ne (fun e => h (by simp [e])), restore_out e0 e vs i fun hm => h (List.mem_cons_of_mem _ hm)]
theorem restore_in (e0 e : Env) : ∀ (vs : List Nat) (i : Nat), i ∈ vs → i < e.length → (restore e0 e vs)[i]? = some (gt e0 i)
  | [], i, h, _ => by cases h
  | v :: vs, i, h, hl => by
    unfold restore
    by_cases hv : v = i
    · subst hv; rw [List.getElem?_set_self (by rw [restore_len]; exact hl)]
    · rw [List.getElem?_set_ne hv, restore_in e0 e vs i (by simpa [Ne.symm hv] using h) hl]
/-- restoring only looks at the slots that are not its own -/
theorem restore_eq {e0 e e' : Env} {vs : List Nat} (hl : e.length = e'.length) (h : ∀ i, i ∉ vs → e[i]? = e'[i]?) : restore e0 e vs = restore e0 e' vs := by
  refine List.ext_getElem? fun i => ?_
  by_cases hi : i ∈ vs
  · by_cases hj : i < e.length
    · rw [restore_in _ _ _ _ hi hj, restore_in _ _ _ _ hi (by omega)]
    · rw [List.getElem?_eq_none (by rw [restore_len]; omega), List.getElem?_eq_none (by rw [restore_len]; omega)]
  · rw [restore_out _ _ _ _ hi, restore_out _ _ _ _ hi, h i hi]
theorem env_restore {e0 e : Env} {O : List Addr} (h : EnvR Cl H Z e σ O) : ∀ {vs : List Nat}, vs.Nodup → (∀ v ∈ vs, gt e v = none) → (∀ v ∈ vs, ∀ t, gt e0 v = some t → v < e.length ∧ ∃ w, σ[v]? = some (some w) ∧ Rep Cl H Z t w []) →
    ∃ O', O'.Perm O ∧ EnvR Cl H Z (restore e0 e vs) σ O'
  | [], _, _, _ => ⟨O, List.Perm.refl _, h⟩
  | v :: vs, nd, hn, hr => by
    have nd' := List.nodup_cons.mp nd
    obtain ⟨O', p, h'⟩ := env_restore h (e0 := e0) nd'.2 (fun w hw => hn w (List.mem_cons_of_mem _ hw)) fun w hw => hr w (List.mem_cons_of_mem _ hw)
    have hv : gt (restore e0 e vs) v = none := by unfold gt; rw [restore_out _ _ _ _ nd'.1]; exact hn v List.mem_cons_self
    unfold restore
    cases q : gt e0 v with
    | none =>
      have hset : (restore e0 e vs).set v none = restore e0 e vs := by
        refine List.ext_getElem? fun i => ?_
        by_cases hi : v = i
        · subst hi
          by_cases hl : v < (restore e0 e vs).length
          · rw [List.getElem?_set_self hl]
            unfold gt at hv
            rw [List.getElem?_eq_getElem hl] at hv ⊢
            have hv : (restore e0 e vs)[v] = none := hv
            rw [hv]
          · rw [List.set_eq_of_length_le (by omega)]
        · rw [List.getElem?_set_ne hi]
      rw [hset]
      exact ⟨O', p, h'⟩
    | some t =>
      obtain ⟨hl, w, hw, rw'⟩ := hr v List.mem_cons_self t q
      obtain ⟨O2, p2, h2⟩ := env_store h' (by rw [restore_len]; exact hl) hv rw'
      rw [set_same hw] at h2
      exact ⟨O2, by simpa using p2.trans p, h2⟩
theorem Keep.trans0 {H1 H2 : Hp} {Z1 Z2 : ZP} (k : Keep [] H Z H1 Z1) (k2 : Keep [] H1 Z1 H2 Z2) : Keep [] H Z H2 Z2 :=
  ⟨fun a vs h => k2.tup a vs (k.tup a vs h), fun a z => (k2.zk a (k.zz a z)).trans (k.zk a z), fun a z => k2.zz a (k.zz a z), fun a h => by cases h⟩
theorem Step.keep0 {O O1 U : List Addr} {H1 : Hp} {Z1 : ZP} (s : Step O H Z H1 Z1 U O1) (g : Good H Z O) : Keep [] H Z H1 Z1 := s.keeps g fun a h => by cases h
/-- a step that owns nothing, within a bigger one -/
theorem Step.thin {O O1 U : List Addr} {H1 H2 : Hp} {Z1 Z2 : ZP} (s : Step O H Z H1 Z1 U O1) (t : Step [] H1 Z1 H2 Z2 [] []) : Step O H Z H2 Z2 U O1 ∧ Keep (U ++ O1) H1 Z1 H2 Z2 := by
  have g : Good H1 Z1 ([] ++ (U ++ O1)) := s.good
  have f := t.frame (B := U ++ O1) g
  have s' : Step O H Z H1 Z1 [] (U ++ O1) := s.perm (by simp)
  exact ⟨(s'.trans f).perm (by simp), t.frameKeep (B := U ++ O1) g⟩
/-! ### the loop of a comprehension -/
/-- a turn's state: the list at D holds acc -/
structure LS (Y : Par) (D : Addr) (own : List Nat) (σ1 : L2.St) (O0 : List Addr) (H0 : Hp) (Z0 : ZP) (Hs : Hp) (Zs : ZP) (Z : ZP) (e : Env) (acc : List T) (H : Hp) : Prop where
  ex : ∃ O vs Oa, H D = some (.lst vs) ∧ Reps Y.Cl H Z acc vs Oa ∧ EnvR Y.Cl H Z (Iv.wipe e own) σ1 O ∧ Step O0 H0 Z0 H Z (D :: Oa) O
  kp : Keep [] Hs Zs H Z
theorem good_nil {O : List Addr} (g : Good H Z O) : Good H Z [] := g.sub List.nodup_nil fun a h => by cases h
theorem loop_core {D : Addr} {own : List Nat} {σ1 : L2.St} {O0 : List Addr} {H0 Hs H1 : Hp} {Z0 Zs Z1 : ZP} {its : List T} {J : It} {f : T → Env → Iv.R (List T)} {okF : List T → Env → Prop} {End : Hp → Prop} {Bd : V → Hp → (Hp → Prop) → Prop} {e : Env} {acc : List T}
    (hJ : ItOk Y its J Hs Zs) (h0 : LS Y D own σ1 O0 H0 Z0 Hs Zs Z1 e acc H1) (hd : Den0 okF FF ((lcLoop f its e).bind fun ys e2 => .ok (acc ++ ys) e2))
    (fin : ∀ Z e acc H, LS Y D own σ1 O0 H0 Z0 Hs Zs Z e acc H → okF acc e → End H)
    (hb : ∀ Z t x e acc H (Nx : Hp → Prop) (k : List T → Env → Iv.R (List T)), LS Y D own σ1 O0 H0 Z0 Hs Zs Z e acc H → Rep Y.Cl H Z t x [] → Den0 okF FF ((f t e).bind k) → (∀ xs e1, Den0 okF FF (k xs e1) → ∃ zs e2, okF (acc ++ (xs ++ zs)) e2) →
      (∀ Z2 xs e1 H2, LS Y D own σ1 O0 H0 Z0 Hs Zs Z2 e1 (acc ++ xs) H2 → Den0 okF FF (k xs e1) → Nx H2) → Bd x H Nx) :
    ∃ W0 : Nat → Nat → Hp → Prop, (∃ m, W0 0 m H1) ∧ ∀ i m H, W0 i m H → (J.stop i H ∧ End H) ∨ (J.go i H ∧ ∃ Nx : Hp → Prop, (∀ H', Nx H' → ∃ m', m' < m ∧ W0 (i + 1) m' H') ∧ ∀ x H', J.yld i H x H' → Bd x H' Nx) := by
  refine ⟨fun i m H => m = its.length - i ∧ i ≤ its.length ∧ ∃ Z e acc, LS Y D own σ1 O0 H0 Z0 Hs Zs Z e acc H ∧ Den0 okF FF ((lcLoop f (its.drop i) e).bind fun ys e2 => .ok (acc ++ ys) e2), ⟨its.length, by simp, Nat.zero_le _, Z1, e, acc, h0, hd⟩, ?_⟩
  rintro i m H ⟨rfl, hi, Z, e, acc, hs, hd⟩
  obtain ⟨O, vs, Oa, hD, ra, he, s⟩ := hs.ex
  have hj := hJ H Z hs.kp (good_nil s.good) i
  by_cases hl : i < its.length
  · have ht : its[i]? = some its[i] := List.getElem?_eq_getElem hl
    obtain ⟨hgo, hyl⟩ := hj.2 _ ht
    refine .inr ⟨hgo, fun H' => ∃ Z e acc, LS Y D own σ1 O0 H0 Z0 Hs Zs Z e acc H' ∧ Den0 okF FF ((lcLoop f (its.drop (i + 1)) e).bind fun ys e2 => .ok (acc ++ ys) e2), fun H' ⟨Z2, e2, acc2, l2, d2⟩ => ⟨its.length - (i + 1), by omega, rfl, by omega, Z2, e2, acc2, l2, d2⟩, fun x H' hy => ?_⟩
    obtain ⟨rx, sx⟩ := hyl x H' hy
    obtain ⟨s2, k2⟩ := s.thin sx
    have hDm : D ∈ (D :: Oa) ++ O := by simp
    have ls2 : LS Y D own σ1 O0 H0 Z0 Hs Zs Z e acc H' := by
      refine ⟨⟨O, vs, Oa, ?_, ra.keep _ (k2.sub fun a ha => by simp [ha]), he.keep (k2.sub fun a ha => by simp [ha]), s2⟩, hs.kp.trans0 (k2.sub fun a ha => by cases ha)⟩
      rw [k2.own D hDm]; exact hD
    rw [List.drop_eq_getElem_cons hl] at hd
    refine hb Z its[i] x e acc H' _ (fun xs e1 => (lcLoop f (its.drop (i + 1)) e1).bind fun ys e2 => .ok (acc ++ (xs ++ ys)) e2) ls2 rx ?_ (fun xs e1 h1 => ?_) fun Z2 xs e1 H2 l2 d2 => ⟨Z2, e1, acc ++ xs, l2, ?_⟩
    · unfold lcLoop at hd
      rw [den_bind, den_bind] at hd
      rw [den_bind]
      refine den_imp hd (fun xs e1 h1 => ?_) fun _ _ _ z => z
      rw [den_bind] at h1 ⊢
      exact den_imp h1 (fun ys e2 h2 => h2) fun _ _ _ z => z
    · cases q : lcLoop f (its.drop (i + 1)) e1 with
      | bad => rw [q] at h1; exact h1.elim
      | exc c p e' => rw [q] at h1; exact h1.elim
      | ok ys e' => rw [q] at h1; exact ⟨ys, e', h1⟩
    · simpa only [List.append_assoc] using d2
  · have e0 : i = its.length := by omega
    refine .inl ⟨hj.1 (by omega), fin Z e acc H hs ?_⟩
    rw [e0, List.drop_length] at hd
    simpa [lcLoop, Den0] using hd
theorem den_lcEnd {e0 : Env} {own : List Nat} {ok : T → Env → Prop} {ex : Nat → T → Env → Prop} {r : Iv.R (List T)} (h : Den0 ok ex (lcEnd e0 own r)) : Den0 (fun ts e => (ts.length ≤ SZ ∧ ownOk e0 own = true) ∧ ok (.lst true ts) (restore e0 e own)) FF r := by
  cases r with
  | bad => exact h
  | exc c p e => exact h
  | ok ts e =>
    have h : Den0 ok ex (if ts.length ≤ SZ ∧ ownOk e0 own = true then .ok (.lst true ts) (restore e0 e own) else .bad) := h
    by_cases hc : ts.length ≤ SZ ∧ ownOk e0 own = true
    · rw [if_pos hc] at h; exact ⟨hc, h⟩
    · rw [if_neg hc] at h; exact h.elim
theorem ff_imp {α : Type} {ok : α → Env → Prop} {ex : Nat → T → Env → Prop} {r : Iv.R α} (h : Den0 ok FF r) : Den0 ok ex r := den_imp h (fun _ _ z => z) fun _ _ _ z => z.elim
/-- the end of a comprehension -/
theorem lc_fin {D : Addr} {own : List Nat} {O0 O1 : List Addr} {H0 H1 : Hp} {Z0 Z1 : ZP} {e0 e : Env} {acc : List T} {Q : VK} (nd : own.Nodup) (he0 : EnvR Y.Cl H1 Z1 e0 σ O1) (s0 : Step O0 H0 Z0 H1 Z1 [] O1)
    (hs : LS Y D own (L2.wipe σ own) O0 H0 Z0 H1 Z1 Z e acc H) (hk : (acc.length ≤ SZ ∧ ownOk e0 own = true) ∧ okW Y (RT Y) σ O0 H0 Z0 Q (.lst true acc) (restore e0 e own)) : Q (.ref D) H := by
  obtain ⟨⟨hz, ho⟩, hk⟩ := hk
  obtain ⟨O, vs, Oa, hD, ra, he, s⟩ := hs.ex
  have hle : e.length = σ.length := by have := he.len; rw [ewipe_len, wipe_length] at this; exact this
  have he1 : EnvR Y.Cl H Z (Iv.wipe e own) σ O := env_sig he (by rw [wipe_length]) fun i t hi => by
    rw [ewipe_get] at hi
    by_cases hm : i ∈ own
    · simp [hm] at hi
    · rw [swipe_get]; simp [hm]
  obtain ⟨O', p, he2⟩ := env_restore (e0 := e0) he1 nd (fun v hv => by rw [ewipe_get]; simp [hv]) fun v hv t ht => by
    unfold ownOk at ho
    rw [List.all_eq_true] at ho
    have hf := ho v hv
    simp only [ht] at hf
    obtain ⟨w, Oi, Or, h1, h2, h3, h4⟩ := env_take he0 ht
    have e3 := Rep.nil_of t hf h2
    subst e3
    refine ⟨by rw [ewipe_len, hle, ← he0.len]; exact gt_lt ht, w, h1, Rep.keep t h2 hs.kp⟩
  rw [restore_eq (e' := e) (by rw [ewipe_len]) fun i hi => ewipe_out e own i hi] at he2
  refine hk (.ref D) H Z (D :: Oa) O' he2 ?_ (s.perm (List.Perm.append_left _ p.symm))
  unfold RT Rep
  exact ⟨D, vs, Oa, rfl, hD, ra, rfl⟩
/-- a target within a block -/
theorem onG {f : T → Env → Iv.R Unit} {γ : Type} {k : Unit → Env → Iv.R γ} {okF : γ → Env → Prop} {σ1 : L2.St} {e1 : Env} {t : T} {x : V} {O0 O1 U1 : List Addr} {H0 H1 : Hp} {Z0 Z1 : ZP} {Q2 : L2.St → Hp → Prop} (he : EnvR Y.Cl H1 Z1 e1 σ1 O1) (r : Rep Y.Cl H1 Z1 t x []) (s : Step O0 H0 Z0 H1 Z1 U1 O1)
    (h : Den0 okF FF ((f t e1).bind k))
    (hk : ∀ e2 σ2 H2 Z2 O2, EnvR Y.Cl H2 Z2 e2 σ2 O2 → Fix P σ1 σ2 → Step O0 H0 Z0 H2 Z2 U1 O2 → Keep U1 H1 Z1 H2 Z2 → Keep [] H1 Z1 H2 Z2 → Den0 okF FF (k () e2) → Q2 σ2 H2) : tT Y Wf P f x σ1 H1 Q2 := by
  refine ⟨t, e1, Z1, O1, [], he, r, s.goodO, ?_⟩
  rw [den_bind] at h
  refine den_imp h (fun _ e2 hd σ2 H2 Z2 O2 he2 fx s2 => ?_) fun _ _ _ z => z.elim
  have s3 : Step O0 H0 Z0 H2 Z2 (U1 ++ []) O2 := s.trans s2
  rw [List.append_nil] at s3
  exact hk e2 σ2 H2 Z2 O2 he2 fx s3 (s.handKeep s2) (s2.keep0 s.goodO) hd
/-- an expression within a block -/
theorem onB {α β γ : Type} {R1 : Rl α β} {O O1 U1 : List Addr} {H1 : Hp} {Z1 : ZP} {e1 : Env} {f : Env → Iv.R α} {k : α → Env → Iv.R γ} {okF : γ → Env → Prop} {Q2 : β → Hp → Prop}
    (s : Step O H Z H1 Z1 U1 O1) (he : EnvR Y.Cl H1 Z1 e1 σ O1) (h : Den0 okF FF ((f e1).bind k))
    (hk : ∀ b e2 y H2 Z2 U2 O2, EnvR Y.Cl H2 Z2 e2 σ O2 → R1 H2 Z2 b y U2 → Step O H Z H2 Z2 (U1 ++ U2) O2 → Keep U1 H1 Z1 H2 Z2 → Keep [] H1 Z1 H2 Z2 → Den0 okF FF (k b e2) → Q2 y H2) :
    tE Y R1 Wf f σ H1 Q2 := by
  refine ⟨e1, Z1, O1, he, s.goodO, ?_⟩
  rw [den_bind] at h
  exact den_imp h (fun b e2 hd y H2 Z2 U2 O2 h1 h2 h3 => hk b e2 y H2 Z2 U2 O2 h1 h2 (s.trans h3) (s.handKeep h3) (h3.keep0 s.goodO) hd) fun c p e hx => hx.elim
theorem fix_wipe {own : List Nat} {σ2 : L2.St} (h : Fix (fun i => i ∉ own) (L2.wipe σ own) σ2) : L2.wipe σ2 own = L2.wipe σ own := by
  refine swipe_eq (by rw [h.1, wipe_length]) fun i hi => ?_
  rw [h.2 i hi, swipe_get]; simp [hi]
theorem wipe_wipe (σ : L2.St) (own : List Nat) : L2.wipe (L2.wipe σ own) own = L2.wipe σ own := swipe_eq (wipe_length _ _) fun i hi => by rw [swipe_get]; simp [hi]
abbrev lcF (ft : T → Env → Iv.R Unit) (fc : Env → Iv.R Bool) (fe : Env → Iv.R T) (own : List Nat) : T → Env → Iv.R (List T) := fun t e1 => (ft t (Iv.wipe e1 own)).bind fun _ e2 => (fc e2).bind fun b e3 => if b = true then (fe e3).bind fun y e4 => .ok [y] e4 else .ok [] e3
/-- a new list D, in hand -/
theorem ls_new {D : Addr} {own : List Nat} {O O1 : List Addr} {H1 : Hp} {Z1 : ZP} {e0 : Env} (he : EnvR Y.Cl H1 Z1 e0 σ O1) (s : Step O H Z H1 Z1 [] O1) (hD : H1 D = none) : LS Y D own (L2.wipe σ own) O H Z H1 Z1 Z1 e0 [] (upd H1 D (.lst [])) := by
  have k := new_keep (o := .lst []) s.goodO hD
  obtain ⟨Od, Or, p, hw⟩ := env_wipe (he.keep k) own
  refine ⟨⟨Or, [], [], upd_same, Reps.nil, hw, (s.own (o := .lst []) hD trivial).few (D := Od) ?_⟩, k.sub fun a h => by cases h⟩
  have q := List.perm_iff_count.mp p
  rw [List.perm_iff_count]; intro x; have := q x; simp only [List.count_append, List.count_cons, List.count_nil] at *; omega
/-- an item is put behind -/
theorem ls_app {D : Addr} {own : List Nat} {σ1 σ2 : L2.St} {O0 O2 Oa U : List Addr} {H0 Hs H2 : Hp} {Z0 Zs Z2 : ZP} {e : Env} {acc : List T} {vs : List V} {y : T} {w : V} (hD : H2 D = some (.lst vs)) (ra : Reps Y.Cl H2 Z2 acc vs Oa) (ry : Rep Y.Cl H2 Z2 y w U) (he : EnvR Y.Cl H2 Z2 e σ2 O2)
    (hw : L2.wipe σ2 own = σ1) (s : Step O0 H0 Z0 H2 Z2 ((D :: Oa) ++ U) O2) (kp : Keep [] Hs Zs H2 Z2) : LS Y D own σ1 O0 H0 Z0 Hs Zs Z2 e (acc ++ [y]) (upd H2 D (.lst (vs ++ [w]))) := by
  have g := s.good
  have hDm : D ∈ ((D :: Oa) ++ U) ++ O2 := by simp
  have nd := g.nd
  have hn : D ∉ (Oa ++ U) ++ O2 := by
    have : ((D :: Oa) ++ U) ++ O2 = D :: ((Oa ++ U) ++ O2) := by simp
    rw [this] at nd
    exact (List.nodup_cons.mp nd).1
  have hnz := g.nz D hDm
  have k : ∀ T1 : List Addr, (∀ a ∈ T1, a ∈ (Oa ++ U) ++ O2) → Keep T1 H2 Z2 (upd H2 D (.lst (vs ++ [w]))) Z2 := fun T1 h => upd_keep hD hnz fun hm => hn (h _ hm)
  obtain ⟨Od, Or, p, hww⟩ := env_wipe (he.keep (k O2 fun a h => List.mem_append_right _ h)) own
  rw [hw] at hww
  refine ⟨⟨Or, vs ++ [w], Oa ++ U, upd_same, (ra.keep _ (k Oa fun a h => by simp [h])).app (Reps.one (Rep.keep y ry (k U fun a h => by simp [h]))), hww, (s.write (o := .lst (vs ++ [w])) hDm trivial).few (D := Od) ?_⟩, kp.trans0 (k [] fun a h => by cases h)⟩
  have q := List.perm_iff_count.mp p
  rw [List.perm_iff_count]; intro x; have := q x; simp only [List.count_append, List.count_cons] at *; omega
theorem ls_stay {D : Addr} {own : List Nat} {σ1 σ2 : L2.St} {O0 O2 Oa : List Addr} {H0 Hs H2 : Hp} {Z0 Zs Z2 : ZP} {e : Env} {acc : List T} {vs : List V} (hD : H2 D = some (.lst vs)) (ra : Reps Y.Cl H2 Z2 acc vs Oa) (he : EnvR Y.Cl H2 Z2 e σ2 O2)
    (hw : L2.wipe σ2 own = σ1) (s : Step O0 H0 Z0 H2 Z2 (D :: Oa) O2) (kp : Keep [] Hs Zs H2 Z2) : LS Y D own σ1 O0 H0 Z0 Hs Zs Z2 e acc H2 := by
  obtain ⟨Od, Or, p, hww⟩ := env_wipe he own
  rw [hw] at hww
  refine ⟨⟨Or, vs, Oa, hD, ra, hww, s.few (D := Od) ?_⟩, kp⟩
  have q := List.perm_iff_count.mp p
  rw [List.perm_iff_count]; intro x; have := q x; simp only [List.count_append, List.count_cons] at *; omega
/-- one turn of a plain comprehension -/
theorem turn_ {D : Addr} {own : List Nat} {O0 : List Addr} {H0 Hs : Hp} {Z0 Zs Z : ZP} {e : Env} {acc : List T} {H : Hp} {t : T} {x : V} {Nx : Hp → Prop} {k : List T → Env → Iv.R (List T)} {okF : List T → Env → Prop} {ft : T → Env → Iv.R Unit} {fc : Env → Iv.R Bool} {fe : Env → Iv.R T}
    (hz : ∀ xs e1, Den0 okF FF (k xs e1) → ∃ zs e2, okF (acc ++ (xs ++ zs)) e2) (ho : ∀ ts e, okF ts e → ts.length ≤ SZ)
    (hs : LS Y D own (L2.wipe σ own) O0 H0 Z0 Hs Zs Z e acc H) (r : Rep Y.Cl H Z t x []) (hd : Den0 okF FF ((lcF ft fc fe own t e).bind k))
    (hn : ∀ Z2 xs e1 H2, LS Y D own (L2.wipe σ own) O0 H0 Z0 Hs Zs Z2 e1 (acc ++ xs) H2 → Den0 okF FF (k xs e1) → Nx H2) :
    tT Y Wf (fun i => i ∉ own) ft x (L2.wipe σ own) H fun σ2 H2 => L2.wipe σ2 own = L2.wipe σ own ∧ EB Y Wf fc σ2 H2 fun b H3 => if b = true then ET Y Wf fe σ2 H3 fun y H4 => ∃ ac, H4 D = some (.lst ac) ∧ ac.length < sizeLine ∧ Nx (upd H4 D (.lst (ac ++ [y]))) else Nx H3 := by
  obtain ⟨O, vs, Oa, hD, ra, he, s⟩ := hs.ex
  have hd : Den0 okF FF ((ft t (Iv.wipe e own)).bind fun _ e2 => ((fc e2).bind fun b e3 => if b = true then (fe e3).bind fun y e4 => .ok [y] e4 else .ok [] e3).bind k) := by
    rw [den_bind] at hd
    unfold lcF at hd
    rw [den_bind] at hd
    rw [den_bind]
    exact den_imp hd (fun _ _ z => by rw [den_bind]; exact z) fun _ _ _ z => z
  refine onG he r s hd fun e2 σ2 H2 Z2 O2 he2 fx s2 k2 k2' hd => ?_
  have hw : L2.wipe σ2 own = L2.wipe σ own := by rw [fix_wipe fx]
  refine ⟨hw, ?_⟩
  have hD2 := (k2.own D List.mem_cons_self).trans hD
  have ra2 := ra.keep _ (k2.sub fun a h => List.mem_cons_of_mem _ h)
  have hd : Den0 okF FF ((fc e2).bind fun b e3 => (if b = true then (fe e3).bind fun y e4 => .ok [y] e4 else .ok [] e3 : Iv.R (List T)).bind k) := by
    rw [den_bind, den_bind] at hd
    rw [den_bind]
    exact den_imp hd (fun _ _ z => by rw [den_bind]; exact z) fun _ _ _ z => z
  refine onB s2 he2 hd fun b e3 b' H3 Z3 U3 O3 he3 rb s3 k3 k3' hd => ?_
  obtain ⟨rfl, rfl⟩ := rb
  rw [List.append_nil] at s3
  have hD3 := (k3.own D List.mem_cons_self).trans hD2
  have ra3 := ra2.keep _ (k3.sub fun a h => List.mem_cons_of_mem _ h)
  have kp3 := (hs.kp.trans0 k2').trans0 k3'
  cases b with
  | false =>
    rw [if_neg Bool.false_ne_true] at hd ⊢
    refine hn Z3 [] e3 H3 ?_ hd
    rw [List.append_nil]
    exact ls_stay hD3 ra3 he3 hw s3 kp3
  | true =>
    rw [if_pos rfl] at hd ⊢
    have hd : Den0 okF FF ((fe e3).bind fun y e4 => k [y] e4) := by
      rw [den_bind, den_bind] at hd
      rw [den_bind]
      exact den_imp hd (fun _ _ z => z) fun _ _ _ z => z
    refine onB s3 he3 hd fun y e4 w H4 Z4 U4 O4 he4 ry s4 k4 k4' hd => ?_
    have hD4 := (k4.own D List.mem_cons_self).trans hD3
    have ra4 := ra3.keep _ (k4.sub fun a h => List.mem_cons_of_mem _ h)
    refine ⟨vs, hD4, ?_, hn Z4 [y] e4 _ (ls_app hD4 ra4 ry he4 hw s4 (kp3.trans0 k4')) hd⟩
    obtain ⟨zs, e5, h5⟩ := hz _ _ hd
    have := ho _ _ h5
    rw [List.length_append, ra.len, List.length_append, List.length_singleton] at this
    rw [← szEq]; omega
abbrev lc1F (fs : Env → Iv.R (List T)) (ft : T → Env → Iv.R Unit) (fc : Env → Iv.R Bool) (fe : Env → Iv.R T) (own : List Nat) : Env → Iv.R T := fun e => (fs e).bind fun its e0 => lcEnd e0 own (lcLoop (lcF ft fc fe own) its e0)
theorem lc_tr {own : List Nat} {fs : Env → Iv.R (List T)} {ft : T → Env → Iv.R Unit} {fc : Env → Iv.R Bool} {fe : Env → Iv.R T} {Q : VK} (nd : own.Nodup) (h : ET Y W (lc1F fs ft fc fe own) σ H Q) :
    tLc (EI Y W fs) (tT Y Wf (fun i => i ∉ own) ft) (EB Y Wf fc) (ET Y Wf fe) own σ H Q := by
  refine one_ h fun O Z its e0 J H1 Z1 U1 O1 g he0 ri s hd => ?_
  obtain ⟨rfl, fi, hJ⟩ := ri
  intro D hD
  refine loop_core (End := Q (.ref D)) (Bd := fun x H' Nx => tT Y Wf (fun i => i ∉ own) ft x (L2.wipe σ own) H' fun σ2 H2 => L2.wipe σ2 own = L2.wipe σ own ∧ EB Y Wf fc σ2 H2 fun b H3 => if b = true then ET Y Wf fe σ2 H3 fun y H4 => ∃ ac, H4 D = some (.lst ac) ∧ ac.length < sizeLine ∧ Nx (upd H4 D (.lst (ac ++ [y]))) else Nx H3)
    hJ (ls_new he0 s hD) (by rw [den_bind]; exact den_lcEnd hd) (fun Z2 e acc H2 ls hk => lc_fin nd he0 s ls hk) fun Z2 t x e acc H2 Nx k ls rx hd2 hz hn => ?_
  exact turn_ hz (fun ts e h => h.1.1) ls rx hd2 hn
theorem e_lc {elt iter : Expr} {ifs : List Expr} {scope : Scope} {ow : List (Str × Nat)} {fs : Env → Iv.R (List T)} {ft : T → Env → Iv.R Unit} {fc : Env → Iv.R Bool} {fe : Env → Iv.R T} (nd : (ow.map (·.2)).Nodup) (hc : X.calm = true) (hN : X.N.Nodup) (hi : PI X tg iter (EI Y W fs)) (ok : BlkOk X.N X.env.scope scope ow)
    (hg : ∀ (s : Shared) (H : Hp) (C : Addr) (cl : List (Str × Addr)) (fp : List Addr), PG (X.blk s H scope (compEnvC scope cl C X.env) fp) tg (tT Y Wf (fun i => i ∉ ow.map (·.2)) ft)) (ht : ∀ (s : Shared) (H : Hp) (C : Addr) (cl : List (Str × Addr)) (fp : List Addr), PTs (X.blk s H scope (compEnvC scope cl C X.env) fp) ifs (EB Y Wf fc))
    (he : ∀ (s : Shared) (H : Hp) (C : Addr) (cl : List (Str × Addr)) (fp : List Addr), PE (X.blk s H scope (compEnvC scope cl C X.env) fp) elt (ET Y Wf fe)) (hs : ∀ x, foldedSetIterable iter X.env x = pure x) :
    PE X (.ListComp elt [⟨tg, iter, ifs, 0⟩] scope pos) (ET Y W (lc1F fs ft fc fe (ow.map (·.2)))) := PE.imp (pe_lc hc hN hi ok hg ht he hs) fun σ H Q h => lc_tr nd h
/-! #### two fors -/
theorem wipe_sub {σ2 : L2.St} {own own2 : List Nat} (hsub : ∀ i ∈ own2, i ∈ own) : L2.wipe (L2.wipe σ2 own2) own = L2.wipe σ2 own := swipe_eq (wipe_length _ _) fun i hi => by
  have : i ∉ own2 := fun h => hi (hsub i h)
  rw [swipe_get]; simp [this]
theorem ewipe_sub {e : Env} {own own2 : List Nat} (hsub : ∀ i ∈ own2, i ∈ own) : Iv.wipe (Iv.wipe e own2) own = Iv.wipe e own := ewipe_eq (ewipe_len _ _) fun i hi => ewipe_out e own2 i fun h => hi (hsub i h)
abbrev lc2F (ft : T → Env → Iv.R Unit) (fc : Env → Iv.R Bool) (fs2 : Env → Iv.R (List T)) (ft2 : T → Env → Iv.R Unit) (fc2 : Env → Iv.R Bool) (fe : Env → Iv.R T) (own own2 : List Nat) : T → Env → Iv.R (List T) := fun t e1 => (ft t (Iv.wipe e1 own)).bind fun _ e2 => (fc e2).bind fun b e3 =>
  if b = true then (fs2 e3).bind fun its2 e4 => lcLoop (lcF ft2 fc2 fe own2) its2 e4 else .ok [] e3
abbrev lc22F (fs : Env → Iv.R (List T)) (ft : T → Env → Iv.R Unit) (fc : Env → Iv.R Bool) (fs2 : Env → Iv.R (List T)) (ft2 : T → Env → Iv.R Unit) (fc2 : Env → Iv.R Bool) (fe : Env → Iv.R T) (own own2 : List Nat) : Env → Iv.R T := fun e => (fs e).bind fun its e0 => lcEnd e0 own (lcLoop (lc2F ft fc fs2 ft2 fc2 fe own own2) its e0)
abbrev bd2 (Y : Par) (σ : L2.St) (D : Addr) (ft : T → Env → Iv.R Unit) (fc : Env → Iv.R Bool) (fs2 : Env → Iv.R (List T)) (ft2 : T → Env → Iv.R Unit) (fc2 : Env → Iv.R Bool) (fe : Env → Iv.R T) (own own2 : List Nat) : V → Hp → (Hp → Prop) → Prop := fun x H' Nx => tT Y Wf (fun i => i ∉ own) ft x (L2.wipe σ own) H' fun σ2 H2 => L2.wipe σ2 own = L2.wipe σ own ∧ EB Y Wf fc σ2 H2 fun b H3 => if b = true then EI Y Wf fs2 σ2 H3 fun J1 H4 => ∃ W1 : Nat → Nat → Hp → Prop, (∃ m, W1 0 m H4) ∧ ∀ j k H, W1 j k H →
      (J1.stop j H ∧ Nx H) ∨ (J1.go j H ∧ ∃ Nx1 : Hp → Prop, (∀ H', Nx1 H' → ∃ k', k' < k ∧ W1 (j + 1) k' H') ∧ ∀ x H', J1.yld j H x H' → tT Y Wf (fun i => i ∉ own2) ft2 x (L2.wipe σ2 own2) H' fun σ3 H5 => L2.wipe σ3 own2 = L2.wipe σ2 own2 ∧ EB Y Wf fc2 σ3 H5 fun b H6 =>
        if b = true then ET Y Wf fe σ3 H6 fun y H7 => ∃ acc, H7 D = some (.lst acc) ∧ acc.length < sizeLine ∧ Nx1 (upd H7 D (.lst (acc ++ [y]))) else Nx1 H6)
    else Nx H3
theorem turn2_ {D : Addr} {own own2 : List Nat} {O : List Addr} {H0 H1 : Hp} {Z0 Z1 Z2 : ZP} {e : Env} {acc : List T} {H2 : Hp} {t : T} {x : V} {Nx : Hp → Prop} {k : List T → Env → Iv.R (List T)} {okF : List T → Env → Prop} {ft ft2 : T → Env → Iv.R Unit} {fc fc2 : Env → Iv.R Bool} {fs2 : Env → Iv.R (List T)} {fe : Env → Iv.R T} (hsub : ∀ i ∈ own2, i ∈ own)
    (hz : ∀ xs e1, Den0 okF FF (k xs e1) → ∃ zs e2, okF (acc ++ (xs ++ zs)) e2) (ho : ∀ ts e, okF ts e → ts.length ≤ SZ)
    (ls : LS Y D own (L2.wipe σ own) O H0 Z0 H1 Z1 Z2 e acc H2) (rx : Rep Y.Cl H2 Z2 t x []) (hd2 : Den0 okF FF ((lc2F ft fc fs2 ft2 fc2 fe own own2 t e).bind k))
    (hn : ∀ Z2 xs e1 H2, LS Y D own (L2.wipe σ own) O H0 Z0 H1 Z1 Z2 e1 (acc ++ xs) H2 → Den0 okF FF (k xs e1) → Nx H2) : bd2 Y σ D ft fc fs2 ft2 fc2 fe own own2 x H2 Nx := by
  obtain ⟨O2, vs, Oa, hD2, ra, he, s2⟩ := ls.ex
  have hd2 : Den0 okF FF ((ft t (Iv.wipe e own)).bind fun _ e2 => ((fc e2).bind fun b e3 => if b = true then (fs2 e3).bind fun its2 e4 => lcLoop (lcF ft2 fc2 fe own2) its2 e4 else .ok [] e3).bind k) := by
    rw [den_bind] at hd2
    unfold lc2F at hd2
    rw [den_bind] at hd2
    rw [den_bind]
    exact den_imp hd2 (fun _ _ z => by rw [den_bind]; exact z) fun _ _ _ z => z
  refine onG he rx s2 hd2 fun e3 σ2 H3 Z3 O3 he3 fx s3 k3 k3' hd2 => ?_
  have hw : L2.wipe σ2 own = L2.wipe σ own := fix_wipe fx
  refine ⟨hw, ?_⟩
  have hD3 := (k3.own D List.mem_cons_self).trans hD2
  have ra3 := ra.keep _ (k3.sub fun a h => List.mem_cons_of_mem _ h)
  have hd2 : Den0 okF FF ((fc e3).bind fun b e4 => (if b = true then (fs2 e4).bind fun its2 e4 => lcLoop (lcF ft2 fc2 fe own2) its2 e4 else .ok [] e4 : Iv.R (List T)).bind k) := by
    rw [den_bind, den_bind] at hd2
    rw [den_bind]
    exact den_imp hd2 (fun _ _ z => by rw [den_bind]; exact z) fun _ _ _ z => z
  refine onB s3 he3 hd2 fun b e4 b' H4 Z4 U4 O4 he4 rb s4 k4 k4' hd2 => ?_
  obtain ⟨rfl, rfl⟩ := rb
  rw [List.append_nil] at s4
  have hD4 := (k4.own D List.mem_cons_self).trans hD3
  have ra4 := ra3.keep _ (k4.sub fun a h => List.mem_cons_of_mem _ h)
  have kp4 := (ls.kp.trans0 k3').trans0 k4'
  cases b with
  | false =>
    rw [if_neg Bool.false_ne_true] at hd2 ⊢
    refine hn Z4 [] e4 H4 ?_ hd2
    rw [List.append_nil]
    exact ls_stay hD4 ra4 he4 hw s4 kp4
  | true =>
    rw [if_pos rfl] at hd2 ⊢
    have hd2 : Den0 okF FF ((fs2 e4).bind fun its2 e5 => (lcLoop (lcF ft2 fc2 fe own2) its2 e5).bind k) := by
      rw [den_bind, den_bind] at hd2
      rw [den_bind]
      exact den_imp hd2 (fun _ _ z => by rw [den_bind]; exact z) fun _ _ _ z => z
    refine onB s4 he4 hd2 fun its2 e5 J1 H5 Z5 U5 O5 he5 ri s5 k5 k5' hd2 => ?_
    obtain ⟨rfl, fi2, hJ2⟩ := ri
    rw [List.append_nil] at s5
    have hD5 := (k5.own D List.mem_cons_self).trans hD4
    have ra5 := ra4.keep _ (k5.sub fun a h => List.mem_cons_of_mem _ h)
    have kp5 := kp4.trans0 k5'
    have ls5 : LS Y D own2 (L2.wipe σ2 own2) O H0 Z0 H5 Z5 Z5 e5 acc H5 := ls_stay hD5 ra5 he5 rfl s5 ⟨fun _ _ h => h, fun _ _ => rfl, fun _ z => z, fun a h => by cases h⟩
    -- the inner loop's own items, behind acc
    refine loop_core (f := lcF ft2 fc2 fe own2) (okF := fun ts e => ∃ ys, ts = acc ++ ys ∧ Den0 okF FF (k ys e)) (End := Nx) (Bd := fun x H' Nx1 => tT Y Wf (fun i => i ∉ own2) ft2 x (L2.wipe σ2 own2) H' fun σ3 H5 => L2.wipe σ3 own2 = L2.wipe σ2 own2 ∧ EB Y Wf fc2 σ3 H5 fun b H6 =>
        if b = true then ET Y Wf fe σ3 H6 fun y H7 => ∃ acc, H7 D = some (.lst acc) ∧ acc.length < sizeLine ∧ Nx1 (upd H7 D (.lst (acc ++ [y]))) else Nx1 H6)
      hJ2 ls5 ?_ (fun Z6 e6 acc6 H6 ls6 ⟨ys, ea, hk⟩ => ?_) fun Z6 t6 x6 e6 acc6 H6 Nx6 k6 ls6 rx6 hd6 hz6 hn6 => ?_
    · rw [den_bind] at hd2 ⊢
      exact den_imp hd2 (fun ys e6 hk => ⟨ys, rfl, hk⟩) fun _ _ _ z => z
    · subst ea
      refine hn Z6 ys e6 H6 ?_ hk
      obtain ⟨O6, vs6, Oa6, hD6, ra6, he6, s6⟩ := ls6.ex
      have := ls_stay (own := own) (σ1 := L2.wipe σ own) (Hs := H1) (Zs := Z1) hD6 ra6 he6 (by rw [wipe_sub hsub, hw]) s6 (kp5.trans0 ls6.kp)
      obtain ⟨O7, vs7, Oa7, hD7, ra7, he7, s7⟩ := this.ex
      rw [ewipe_sub hsub] at he7
      exact ⟨⟨O7, vs7, Oa7, hD7, ra7, he7, s7⟩, this.kp⟩
    · refine turn_ hz6 (fun ts e7 ⟨ys, ea, hk⟩ => ?_) ls6 rx6 hd6 hn6
      obtain ⟨zs, e8, h8⟩ := hz ys e7 hk
      have := ho _ _ h8
      rw [ea]
      simp only [List.length_append] at this ⊢
      omega
theorem lc2_tr {own own2 : List Nat} {fs fs2 : Env → Iv.R (List T)} {ft ft2 : T → Env → Iv.R Unit} {fc fc2 : Env → Iv.R Bool} {fe : Env → Iv.R T} {Q : VK} (nd : own.Nodup) (hsub : ∀ i ∈ own2, i ∈ own) (h : ET Y W (lc22F fs ft fc fs2 ft2 fc2 fe own own2) σ H Q) :
    tLc2 (EI Y W fs) (tT Y Wf (fun i => i ∉ own) ft) (EB Y Wf fc) (EI Y Wf fs2) (tT Y Wf (fun i => i ∉ own2) ft2) (EB Y Wf fc2) (ET Y Wf fe) own own2 σ H Q := by
  refine one_ h fun O Z its e0 J H1 Z1 U1 O1 g he0 ri s hd => ?_
  obtain ⟨rfl, fi, hJ⟩ := ri
  intro D hD
  refine loop_core (End := Q (.ref D)) (Bd := bd2 Y σ D ft fc fs2 ft2 fc2 fe own own2)
    hJ (ls_new he0 s hD) (by rw [den_bind]; exact den_lcEnd hd) (fun Z2 e acc H2 ls hk => lc_fin nd he0 s ls hk) fun Z2 t x e acc H2 Nx k ls rx hd2 hz hn => ?_
  exact turn2_ hsub hz (fun ts e h => h.1.1) ls rx hd2 hn
theorem e_lc2 {elt iter tg1 iter1 : Expr} {ifs ifs1 : List Expr} {scope : Scope} {ow : List (Str × Nat)} {own2 : List Nat} {fs fs2 : Env → Iv.R (List T)} {ft ft2 : T → Env → Iv.R Unit} {fc fc2 : Env → Iv.R Bool} {fe : Env → Iv.R T} (nd : (ow.map (·.2)).Nodup) (hc : X.calm = true) (hN : X.N.Nodup) (hi : PI X tg iter (EI Y W fs)) (ok : BlkOk X.N X.env.scope scope ow) (hv : ∀ i ∈ own2, i ∈ ow.map (·.2))
    (hg : ∀ (s : Shared) (H : Hp) (C : Addr) (cl : List (Str × Addr)) (fp : List Addr), PG (X.blk s H scope (compEnvC scope cl C X.env) fp) tg (tT Y Wf (fun i => i ∉ ow.map (·.2)) ft)) (ht : ∀ (s : Shared) (H : Hp) (C : Addr) (cl : List (Str × Addr)) (fp : List Addr), PTs (X.blk s H scope (compEnvC scope cl C X.env) fp) ifs (EB Y Wf fc))
    (hi1 : ∀ (s : Shared) (H : Hp) (C : Addr) (cl : List (Str × Addr)) (fp : List Addr), PI (X.blk s H scope (compEnvC scope cl C X.env) fp) tg1 iter1 (EI Y Wf fs2))
    (hg1 : ∀ (s : Shared) (H : Hp) (C : Addr) (cl : List (Str × Addr)) (fp : List Addr), PG (X.blk s H scope (compEnvC scope cl C X.env) fp) tg1 (tT Y Wf (fun i => i ∉ own2) ft2)) (ht1 : ∀ (s : Shared) (H : Hp) (C : Addr) (cl : List (Str × Addr)) (fp : List Addr), PTs (X.blk s H scope (compEnvC scope cl C X.env) fp) ifs1 (EB Y Wf fc2))
    (he : ∀ (s : Shared) (H : Hp) (C : Addr) (cl : List (Str × Addr)) (fp : List Addr), PE (X.blk s H scope (compEnvC scope cl C X.env) fp) elt (ET Y Wf fe)) (hs : ∀ x, foldedSetIterable iter X.env x = pure x) (hs1 : ∀ env x, foldedSetIterable iter1 env x = pure x) :
    PE X (.ListComp elt [⟨tg, iter, ifs, 0⟩, ⟨tg1, iter1, ifs1, 0⟩] scope pos) (ET Y W (lc22F fs ft fc fs2 ft2 fc2 fe (ow.map (·.2)) own2)) := PE.imp (pe_lc2 hc hN hi ok hv hg ht hi1 hg1 ht1 he hs hs1) fun σ H Q h => lc2_tr nd hv h
end
end Iv
set_option Elab.async false
set_option linter.all false
set_option maxRecDepth 100000
namespace Iv
open PySem PySem.Spec PyProof.Rows L2
section
variable {Y : Par} {σ : L2.St} {H : Hp} {W : WX} {Cl : Pr} {Z : ZP} {K : PySem.W.Frag} {P : Nat → Prop} {io : Bool}
variable {X : Cx} {a b c tg : Expr} {es : List Expr} {pos p : Pos} {fa fb fc : Env → Iv.R T} {fs : Env → Iv.R (List T)} {f g : Env → Iv.R Fl}
/-! ### statements -/
def flW (Y : Par) (O : List Addr) (H : Hp) (Z : ZP) (D : Ends) (fl : Fl) (σ' : L2.St) (H' : Hp) (Z' : ZP) (O' : List Addr) : Prop := match fl with
  | .nx => Step O H Z H' Z' [] O' → D.nx σ' H'
  | .bk => Step O H Z H' Z' [] O' → D.bk σ' H'
  | .ct => Step O H Z H' Z' [] O' → D.ct σ' H'
  | .rt t => ∀ v U, Rep Y.Cl H' Z' t v U → Step O H Z H' Z' U O' → D.rt v H'
/-- as flW, but at the return the slots are known -/
def okS (Y : Par) (P : Nat → Prop) (σ : L2.St) (O : List Addr) (H : Hp) (Z : ZP) (D : Ends) : Fl → Env → Prop := fun fl e =>
  ∀ σ' H' Z' O', EnvR Y.Cl H' Z' e σ' O' → Fix P σ σ' → flW Y O H Z D fl σ' H' Z' O'
abbrev DenS (Y : Par) (W : WX) (P : Nat → Prop) (σ : L2.St) (O : List Addr) (H : Hp) (Z : ZP) (D : Ends) (r : Iv.R Fl) : Prop := Den0 (okS Y P σ O H Z D) (exT Y W P σ O H Z) r
def tS (Y : Par) (W : WX) (P : Nat → Prop) (f : Env → Iv.R Fl) : TS := fun D σ H => ∃ e Z O, EnvR Y.Cl H Z e σ O ∧ Good H Z O ∧ DenS Y W P σ O H Z D (f e)
theorem flW.step {O O1 : List Addr} {H1 H2 : Hp} {Z1 Z2 : ZP} {D : Ends} {fl : Fl} {σ' : L2.St} {O2 : List Addr} (s : Step O H Z H1 Z1 [] O1) (h : flW Y O H Z D fl σ' H2 Z2 O2) : flW Y O1 H1 Z1 D fl σ' H2 Z2 O2 := by
  cases fl with
  | nx => exact fun s2 => h (s.trans s2)
  | bk => exact fun s2 => h (s.trans s2)
  | ct => exact fun s2 => h (s.trans s2)
  | rt t => exact fun v U r s2 => h v U r (s.trans s2)
theorem okS.step {O O1 : List Addr} {H1 : Hp} {Z1 : ZP} {D : Ends} {fl : Fl} {e : Env} {σ1 : L2.St} (s : Step O H Z H1 Z1 [] O1) (fx : Fix P σ σ1) (h : okS Y P σ O H Z D fl e) : okS Y P σ1 O1 H1 Z1 D fl e :=
  fun σ' H' Z' O' h1 h2 => (h σ' H' Z' O' h1 (fx.trans h2)).step s
theorem exT.step {O O1 : List Addr} {H1 : Hp} {Z1 : ZP} {c : Nat} {p : T} {e : Env} {σ1 : L2.St} (s : Step O H Z H1 Z1 [] O1) (fx : Fix P σ σ1) (h : exT Y W P σ O H Z c p e) : exT Y W P σ1 O1 H1 Z1 c p e :=
  fun σ' cls d H' Z' O' h1 h2 h3 h4 => h σ' cls d H' Z' O' h1 (fx.trans h2) h3 (s.trans h4)
/-- a statement within another's reading -/
theorem inS {O O1 : List Addr} {H1 : Hp} {Z1 : ZP} {D : Ends} {e1 : Env} {σ1 : L2.St} (s : Step O H Z H1 Z1 [] O1) (he : EnvR Y.Cl H1 Z1 e1 σ1 O1) (fx : Fix P σ σ1) (h : DenS Y W P σ O H Z D (f e1)) : tS Y W P f D σ1 H1 :=
  ⟨e1, Z1, O1, he, s.goodO, den_imp h (fun _ _ z => z.step s fx) fun _ _ _ z => z.step s fx⟩
theorem ss_nil : PSs X [] (tS Y W P fun e => .ok .nx e) := PSs.imp pss_nil fun D σ H ⟨e, Z, O, he, g, hd⟩ => hd σ H Z O he Fix.refl (Step.refl g)
theorem ss_cons {st : Stmt} {rest : List Stmt} (h1 : PS X st (tS Y W P f)) (h2 : PSs X rest (tS Y W P g)) : PSs X (st :: rest) (tS Y W P fun e => (f e).bind fun fl e => match fl with
    | .nx => g e
    | .rt t => .ok (.rt t) e
    | .bk => .ok .bk e
    | .ct => .ok .ct e) := by
  refine PSs.imp (pss_cons h1 h2) fun D σ H ⟨e, Z, O, he, g0, hd⟩ => ?_
  refine ⟨e, Z, O, he, g0, ?_⟩
  unfold DenS at hd
  rw [den_bind] at hd
  refine den_imp hd (fun fl e1 hk σ1 H1 Z1 O1 he1 fx => ?_) fun _ _ _ z => z
  cases fl with
  | nx => exact fun s => inS s he1 fx hk
  | bk => exact hk σ1 H1 Z1 O1 he1 fx
  | ct => exact hk σ1 H1 Z1 O1 he1 fx
  | rt t => exact hk σ1 H1 Z1 O1 he1 fx
theorem s_pass : PS X (.Pass pos) (tS Y W P fun e => .ok .nx e) := PS.imp ps_pass fun D σ H ⟨e, Z, O, he, g, hd⟩ => hd σ H Z O he Fix.refl (Step.refl g)
theorem s_brk : PS X (.Break pos) (tS Y W P fun e => .ok .bk e) := PS.imp ps_break fun D σ H ⟨e, Z, O, he, g, hd⟩ => hd σ H Z O he Fix.refl (Step.refl g)
theorem s_cont : PS X (.Continue pos) (tS Y W P fun e => .ok .ct e) := PS.imp ps_continue fun D σ H ⟨e, Z, O, he, g, hd⟩ => hd σ H Z O he Fix.refl (Step.refl g)
theorem s_never {st : Stmt} : PS X st (tS Y W P fun _ => .bad) := PS.imp ps_never fun D σ H ⟨e, Z, O, he, g, hd⟩ => hd
theorem e_never {x : Expr} : PE X x (ET Y W fun _ => .bad) := ⟨fun _ _ _ _ _ _ ⟨e, Z, O, he, g, hd⟩ => hd.elim⟩
theorem t_never {x : Expr} : PT X x (EB Y W fun _ => asB .bad) := ⟨fun _ _ _ _ _ _ ⟨e, Z, O, he, g, hd⟩ => hd.elim⟩
theorem s_retN : PS X (.Return none pos) (tS Y W P fun e => .ok (.rt .non) e) := PS.imp ps_retN fun D σ H ⟨e, Z, O, he, g, hd⟩ => hd σ H Z O he Fix.refl .non [] rep_non (Step.refl g)
theorem s_ret (ha : PE X a (ET Y W fa)) : PS X (.Return (some a) pos) (tS Y W P fun e => (fa e).bind fun x e => .ok (.rt x) e) := by
  refine PS.imp (ps_ret ha) fun D σ H ⟨e, Z, O, he, g, hd⟩ => ?_
  refine onT (R1 := RT Y) (Step.refl g) he Fix.refl hd fun t e1 v H1 Z1 U1 O1 he1 r s s' k hd => ?_
  exact hd σ H1 Z1 O1 he1 Fix.refl v U1 r s
theorem s_exp (ha : PE X a (ET Y W fa)) (hs : swapsWith a none pos.line X.env = pure false) : PS X (.Expr a pos) (tS Y W P fun e => (fa e).bind fun _ e => .ok .nx e) := by
  refine PS.imp (ps_expr ha hs) fun D σ H ⟨e, Z, O, he, g, hd⟩ => ?_
  refine onT (R1 := RT Y) (Step.refl g) he Fix.refl hd fun t e1 v H1 Z1 U1 O1 he1 r s s' k hd => ?_
  exact hd σ H1 Z1 O1 he1 Fix.refl s.drop
theorem s_doc {x j p2} : PS X (.Expr (.Constant (.str x) j p2) pos) (tS Y W P fun e => .ok .nx e) := PS.imp ps_doc fun D σ H ⟨e, Z, O, he, g, hd⟩ => hd σ H Z O he Fix.refl (Step.refl g)
/-- target = value, by the kit's reading -/
theorem asg_tr {ft : T → Env → Iv.R Unit} {D : Ends} (h : tS Y W P (fun e => (fa e).bind fun x e => (ft x e).bind fun _ e => .ok .nx e) D σ H) : tAsg (ET Y W fa) (tT Y W P ft) D σ H := by
  obtain ⟨e, Z, O, he, g, hd⟩ := h
  refine onT (R1 := RT Y) (Step.refl g) he Fix.refl hd fun t e1 v H1 Z1 U1 O1 he1 r s s' k hd => ?_
  refine ⟨t, e1, Z1, O1, U1, he1, r, s.good, ?_⟩
  rw [den_bind] at hd
  have s2 : Step O H Z H1 Z1 [] (U1 ++ O1) := s.perm (by simp)
  refine den_imp hd (fun _ e2 hk σ2 H2 Z2 O2 he2 fx s3 => ?_) fun _ _ _ z => z.step s2 Fix.refl
  exact hk σ2 H2 Z2 O2 he2 fx (s2.trans s3)
/-- several names at once -/
theorem par2_tr {i j : Nat} {D : Ends} (hi : (io && i == 0) = false → ¬ P i) (hj : (io && j == 0) = false → ¬ P j) (h : tS Y W P (fun e => (fs e).bind fun ts e => (parS io [i, j] ts e).bind fun _ e => .ok .nx e) D σ H) : tPar i j (ETs Y W fs) D σ H := by
  obtain ⟨e, Z, O, he, g, hd⟩ := h
  refine onT (R1 := RTs Y) (Step.refl g) he Fix.refl hd fun ts e1 vs H1 Z1 U1 O1 he1 r s s' k hd => ?_
  cases ts with
  | nil => exact hd.elim
  | cons t ts =>
    cases ts with
    | nil =>
      unfold parS at hd
      rw [den_bind, den_bind] at hd
      obtain ⟨h1, h2, hd⟩ := setNm_ok hd
      exact hd.elim
    | cons u ts =>
      cases ts with
      | cons _ _ =>
        unfold parS at hd
        rw [den_bind, den_bind] at hd
        obtain ⟨h1, h2, hd⟩ := setNm_ok hd
        unfold parS at hd
        rw [den_bind] at hd
        obtain ⟨h1, h2, hd⟩ := setNm_ok hd
        exact hd.elim
      | nil =>
        unfold parS at hd
        rw [den_bind, den_bind] at hd
        obtain ⟨h1, h2, hd⟩ := setNm_ok hd
        unfold parS at hd
        rw [den_bind] at hd
        obtain ⟨h3, h4, hd⟩ := setNm_ok hd
        unfold Reps at r
        obtain ⟨v, w, Ua, Ub, rfl, r1, r2, rfl⟩ := r
        unfold Reps at r2
        obtain ⟨v2, w2, Uc, Ud, rfl, r2, r3, rfl⟩ := r2
        unfold Reps at r3
        obtain ⟨rfl, rfl⟩ := r3
        refine ⟨v, v2, rfl, ?_⟩
        have sa : Step (Uc ++ O) H Z H Z Uc O → True := fun _ => trivial
        obtain ⟨Od, Or, hp, hn, _⟩ := env_drop he1 (i := i) none
        obtain ⟨Oa, pa, ha⟩ := env_set hn h2 r1
        obtain ⟨Od2, Or2, hp2, hn2, _⟩ := env_drop ha (i := j) none
        obtain ⟨Ob, pb, hb⟩ := env_set hn2 h4 r2
        refine hd _ H1 Z1 Ob hb ((Fix.set (hi h1)).trans (Fix.set (hj h3))) (s.few (D := Od ++ Od2) ?_)
        have q1 := List.perm_iff_count.mp hp
        have q2 := List.perm_iff_count.mp pa
        have q3 := List.perm_iff_count.mp hp2
        have q4 := List.perm_iff_count.mp pb
        rw [List.perm_iff_count]; intro x; have := q1 x; have := q2 x; have := q3 x; have := q4 x
        simp only [List.count_append, List.count_nil] at *; omega
theorem par3_tr {i j l : Nat} {D : Ends} (hi : (io && i == 0) = false → ¬ P i) (hj : (io && j == 0) = false → ¬ P j) (hl : (io && l == 0) = false → ¬ P l) (h : tS Y W P (fun e => (fs e).bind fun ts e => (parS io [i, j, l] ts e).bind fun _ e => .ok .nx e) D σ H) : tPar3 i j l (ETs Y W fs) D σ H := by
  obtain ⟨e, Z, O, he, g, hd⟩ := h
  refine onT (R1 := RTs Y) (Step.refl g) he Fix.refl hd fun ts e1 vs H1 Z1 U1 O1 he1 r s s' k hd => ?_
  have key : ∃ t u w, ts = [t, u, w] := by
    have hd : Den0 (okS Y P σ O H Z D) (exT Y W P σ O H Z) ((parS io [i, j, l] ts e1).bind fun _ e => .ok .nx e) := hd
    rcases ts with _ | ⟨t, _ | ⟨u, _ | ⟨w, _ | ⟨z, ts⟩⟩⟩⟩
    · exact hd.elim
    · unfold parS at hd; rw [den_bind, den_bind] at hd; obtain ⟨_, _, hd⟩ := setNm_ok hd; exact hd.elim
    · unfold parS at hd; rw [den_bind, den_bind] at hd; obtain ⟨_, _, hd⟩ := setNm_ok hd; unfold parS at hd; rw [den_bind] at hd; obtain ⟨_, _, hd⟩ := setNm_ok hd; exact hd.elim
    · exact ⟨t, u, w, rfl⟩
    · unfold parS at hd; rw [den_bind, den_bind] at hd; obtain ⟨_, _, hd⟩ := setNm_ok hd; unfold parS at hd; rw [den_bind] at hd; obtain ⟨_, _, hd⟩ := setNm_ok hd; unfold parS at hd; rw [den_bind] at hd; obtain ⟨_, _, hd⟩ := setNm_ok hd; exact hd.elim
  obtain ⟨t, u, z, rfl⟩ := key
  unfold parS at hd
  rw [den_bind, den_bind] at hd
  obtain ⟨h1, h2, hd⟩ := setNm_ok hd
  unfold parS at hd
  rw [den_bind] at hd
  obtain ⟨h3, h4, hd⟩ := setNm_ok hd
  unfold parS at hd
  rw [den_bind] at hd
  obtain ⟨h5, h6, hd⟩ := setNm_ok hd
  unfold Reps at r
  obtain ⟨v, w, Ua, Ub, rfl, r1, r2, rfl⟩ := r
  unfold Reps at r2
  obtain ⟨v2, w2, Uc, Ud, rfl, r2, r3, rfl⟩ := r2
  unfold Reps at r3
  obtain ⟨v3, w3, Ue, Uf, rfl, r3, r4, rfl⟩ := r3
  unfold Reps at r4
  obtain ⟨rfl, rfl⟩ := r4
  refine ⟨v, v2, v3, rfl, ?_⟩
  obtain ⟨Od, Or, hp, hn, _⟩ := env_drop he1 (i := i) none
  obtain ⟨Oa, pa, ha⟩ := env_set hn h2 r1
  obtain ⟨Od2, Or2, hp2, hn2, _⟩ := env_drop ha (i := j) none
  obtain ⟨Ob, pb, hb⟩ := env_set hn2 h4 r2
  obtain ⟨Od3, Or3, hp3, hn3, _⟩ := env_drop hb (i := l) none
  obtain ⟨Oc, pc, hc⟩ := env_set hn3 h6 r3
  refine hd _ H1 Z1 Oc hc (((Fix.set (hi h1)).trans (Fix.set (hj h3))).trans (Fix.set (hl h5))) (s.few (D := Od ++ Od2 ++ Od3) ?_)
  have q1 := List.perm_iff_count.mp hp
  have q2 := List.perm_iff_count.mp pa
  have q3 := List.perm_iff_count.mp hp2
  have q4 := List.perm_iff_count.mp pb
  have q5 := List.perm_iff_count.mp hp3
  have q6 := List.perm_iff_count.mp pc
  rw [List.perm_iff_count]; intro x; have := q1 x; have := q2 x; have := q3 x; have := q4 x; have := q5 x; have := q6 x
  simp only [List.count_append, List.count_nil] at *; omega
/-! #### if, while, for -/
theorem s_if {th el : List Stmt} (hc : PT X c (EB Y W fun e => asB (fc e))) (h1 : PSs X th (tS Y W P f)) (h2 : PSs X el (tS Y W P g)) : PS X (.If c th el pos) (tS Y W P fun e => (fc e).bind fun x e => (match x with
    | .bl true => f e
    | .bl false => g e
    | _ => .bad)) := by
  refine PS.imp (ps_if hc h1 h2) fun D σ H ⟨e, Z, O, he, g0, hd⟩ => ?_
  refine ⟨e, Z, O, he, g0, ?_⟩
  unfold DenS at hd
  rw [den_bind] at hd
  refine (den_bind (r := fc e)).mpr ?_
  refine den_imp hd (fun x e1 hk => ?_) fun _ _ _ z => z.exW
  cases x <;> first | exact hk.elim | skip
  rename_i d
  intro b H1 Z1 U O1 he1 r s
  obtain ⟨rfl, rfl⟩ := r
  cases d with
  | true => exact inS s he1 Fix.refl hk
  | false => exact inS s he1 Fix.refl hk
/-- a loop's turn -/
theorem turnS {O O1 : List Addr} {H1 : Hp} {Z1 : ZP} {D : Ends} {N : L2.St → Hp → Prop} {e1 : Env} {σ1 : L2.St} {k : Env → Iv.R Fl} (s : Step O H Z H1 Z1 [] O1) (he : EnvR Y.Cl H1 Z1 e1 σ1 O1) (fx : Fix P σ σ1)
    (h : DenS Y W P σ O H Z D ((f e1).bind fun fl e2 => (match fl with
      | .nx => k e2
      | .ct => k e2
      | .bk => .ok .nx e2
      | .rt t => .ok (.rt t) e2)))
    (hN : ∀ e2 σ2 H2 Z2 O2, EnvR Y.Cl H2 Z2 e2 σ2 O2 → Fix P σ σ2 → Step O H Z H2 Z2 [] O2 → DenS Y W P σ O H Z D (k e2) → N σ2 H2) : tS Y W P f { D with nx := N, ct := N, bk := D.nx } σ1 H1 := by
  refine inS s he fx ?_
  unfold DenS at h
  rw [den_bind] at h
  refine den_imp h (fun fl e2 hk σ2 H2 Z2 O2 he2 fx2 => ?_) fun _ _ _ z => z
  cases fl with
  | nx => exact fun s2 => hN e2 σ2 H2 Z2 O2 he2 fx2 s2 hk
  | ct => exact fun s2 => hN e2 σ2 H2 Z2 O2 he2 fx2 s2 hk
  | bk => exact hk σ2 H2 Z2 O2 he2 fx2
  | rt t => exact hk σ2 H2 Z2 O2 he2 fx2
theorem s_whl {body : List Stmt} {n : Nat} (hp : PassesOwn (model X.prog X.w) X.A X.env X.xe) (hc : PT X c (EB Y W fun e => asB (fc e))) (h1 : PSs X body (tS Y W P f)) : PS X (.While c body [] pos) (tS Y W P fun e => whlLoop fc f n e) := by
  refine PS.imp (ps_while hp hc h1) fun D σ H ⟨e, Z, O, he, g0, hd⟩ => ?_
  refine ⟨fun m σ1 H1 => ∃ e1 Z1 O1, EnvR Y.Cl H1 Z1 e1 σ1 O1 ∧ Fix P σ σ1 ∧ Step O H Z H1 Z1 [] O1 ∧ DenS Y W P σ O H Z D (whlLoop fc f m e1), ⟨n, e, Z, O, he, Fix.refl, Step.refl g0, hd⟩, ?_⟩
  rintro m σ1 H1 ⟨e1, Z1, O1, he1, fx1, s1, hd1⟩
  cases m with
  | zero => exact hd1.elim
  | succ m =>
    refine ⟨e1, Z1, O1, he1, s1.goodO, ?_⟩
    unfold whlLoop DenS at hd1
    rw [den_bind] at hd1
    refine (den_bind (r := fc e1)).mpr ?_
    refine den_imp hd1 (fun x e2 hk => ?_) fun c p e2 z => (z.step s1 fx1).exW
    cases x <;> first | exact hk.elim | skip
    rename_i d
    intro b H2 Z2 U O2 he2 r s2
    obtain ⟨rfl, rfl⟩ := r
    cases d with
    | true =>
      rw [if_pos rfl]
      refine ⟨fun σ3 H3 => ∃ e1 Z1 O1, EnvR Y.Cl H3 Z1 e1 σ3 O1 ∧ Fix P σ σ3 ∧ Step O H Z H3 Z1 [] O1 ∧ DenS Y W P σ O H Z D (whlLoop fc f m e1), fun σ3 H3 h3 => ⟨m, Nat.lt_succ_self m, h3⟩, ?_⟩
      exact turnS (k := whlLoop fc f m) (s1.trans s2) he2 fx1 hk fun e3 σ3 H3 Z3 O3 he3 fx3 s3 hd3 => ⟨e3, Z3, O3, he3, fx3, s3, hd3⟩
    | false =>
      rw [if_neg Bool.false_ne_true]
      exact hk σ1 H2 Z2 O2 he2 fx1 (s1.trans s2)
theorem s_for {body : List Stmt} {iter : Expr} {ft : T → Env → Iv.R Unit} (hp : PassesOwn (model X.prog X.w) X.A X.env X.xe) (hc : X.calm = true) (hi : PI X tg iter (EI Y W fs)) (hg : PG X tg (tT Y W P ft)) (h1 : PSs X body (tS Y W P f)) (hs : ∀ x, foldedSetIterable iter X.env x = pure x) :
    PS X (.For tg iter body [] pos) (tS Y W P fun e => (fs e).bind fun its e => forLoop (fun x e => (ft x e).bind fun _ e => f e) its e) := by
  refine PS.imp (ps_for hp hc hi hg h1 hs) fun D σ H ⟨e, Z, O, he, g0, hd⟩ => ?_
  refine onT (R1 := RI Y) (Step.refl g0) he Fix.refl hd fun its e1 J H1 Z1 U1 O1 he1 r s1 s1' k hd => ?_
  obtain ⟨rfl, fi, hJ⟩ := r
  replace hd : DenS Y W P σ O1 H1 Z1 D (forLoop (fun x e => (ft x e).bind fun _ e => f e) its e1) := den_imp hd (fun _ _ z => z.step s1 Fix.refl) fun _ _ _ z => z.step s1 Fix.refl
  have g1 := s1.goodO
  clear s1 s1' k
  refine ⟨fun i m σ2 H2 => m = its.length - i ∧ i ≤ its.length ∧ ∃ e2 Z2 O2, EnvR Y.Cl H2 Z2 e2 σ2 O2 ∧ Fix P σ σ2 ∧ Step O1 H1 Z1 H2 Z2 [] O2 ∧ DenS Y W P σ O1 H1 Z1 D (forLoop (fun x e => (ft x e).bind fun _ e => f e) (its.drop i) e2),
    ⟨its.length, by simp, Nat.zero_le _, e1, Z1, O1, he1, Fix.refl, Step.refl g1, hd⟩, ?_⟩
  rintro i m σ2 H2 ⟨rfl, hil, e2, Z2, O2, he2, fx2, s2, hd2⟩
  have hj := hJ H2 Z2 (s2.keep0 g1) (good_nil s2.good) i
  by_cases hl : i < its.length
  · have ht : its[i]? = some its[i] := List.getElem?_eq_getElem hl
    obtain ⟨hgo, hyl⟩ := hj.2 _ ht
    refine .inr ⟨hgo, fun σ3 H3 => ∃ e2 Z2 O2, EnvR Y.Cl H3 Z2 e2 σ3 O2 ∧ Fix P σ σ3 ∧ Step O1 H1 Z1 H3 Z2 [] O2 ∧ DenS Y W P σ O1 H1 Z1 D (forLoop (fun x e => (ft x e).bind fun _ e => f e) (its.drop (i + 1)) e2), fun σ3 H3 h3 => ⟨its.length - (i + 1), by omega, rfl, by omega, h3⟩, fun x H3 hy => ?_⟩
    obtain ⟨rx, sx⟩ := hyl x H3 hy
    obtain ⟨s3, k3⟩ := s2.thin sx
    rw [List.drop_eq_getElem_cons hl] at hd2
    unfold forLoop DenS at hd2
    rw [den_bind, den_bind] at hd2
    refine ⟨its[i], e2, Z2, O2, [], he2.keep (k3.sub fun a h => by simp [h]), rx, s3.goodO, ?_⟩
    refine den_imp hd2 (fun _ e3 hk σ4 H4 Z4 O4 he4 fx4 s4 => ?_) fun _ _ _ z => z.step s3 fx2
    refine turnS (k := forLoop (fun x e => (ft x e).bind fun _ e => f e) (its.drop (i + 1))) (s3.trans s4) he4 (fx2.trans fx4) (den_bind.mpr ?_) fun e5 σ5 H5 Z5 O5 he5 fx5 s5 hd5 => ⟨e5, Z5, O5, he5, fx5, s5, hd5⟩
    refine den_imp hk (fun fl e6 z => ?_) fun _ _ _ z => z
    cases fl <;> exact z
  · have e0 : i = its.length := by omega
    refine .inl ⟨hj.1 (by omega), ?_⟩
    rw [e0, List.drop_length] at hd2
    exact hd2 σ2 H2 Z2 O2 he2 fx2 s2
end
end Iv
set_option Elab.async false
set_option linter.all false
set_option maxRecDepth 100000
namespace Iv
open PySem PySem.Spec PyProof.Rows L2
section
variable {Y : Par} {σ : L2.St} {H : Hp} {W : WX} {Cl : Pr} {Z : ZP} {K : PySem.W.Frag} {P : Nat → Prop} {io : Bool}
variable {X : Cx} {a b c tg : Expr} {es : List Expr} {pos p : Pos} {fa fb fc : Env → Iv.R T} {fs : Env → Iv.R (List T)} {f g : Env → Iv.R Fl}
structure IRule (X : Cx) (o : BOp) (op : Operator) where
  r : TIp
  ok : PIp X op r
  by_ : ∀ {x y z : T}, iop o x y = some z → ∃ i j k, x = .int i ∧ y = .int j ∧ z = .int k ∧ ∀ (H : Hp) (Q : VK), Q (.int k) H → r (.int i) (.int j) H Q
def irule (X : Cx) : (o : BOp) → Option ((op : Operator) × IRule X o op)
  | .add => some ⟨.Add, _, ip_add, fun {x y z} h => by
      cases x <;> simp only [iop] at h <;> first | cases h; done | skip
      cases y <;> simp only [iop] at h <;> first | cases h; done | skip
      cases h; exact ⟨_, _, _, rfl, rfl, rfl, fun H Q q => ⟨_, _, rfl, rfl, q⟩⟩⟩
  | .sub => some ⟨.Sub, _, ip_sub, fun {x y z} h => by
      cases x <;> simp only [iop] at h <;> first | cases h; done | skip
      cases y <;> simp only [iop] at h <;> first | cases h; done | skip
      cases h; exact ⟨_, _, _, rfl, rfl, rfl, fun H Q q => ⟨_, _, rfl, rfl, q⟩⟩⟩
  | .mul => some ⟨.Mult, _, iop_mulB, fun {x y z} h => by
      cases x <;> simp only [iop] at h <;> first | cases h; done | skip
      cases y <;> simp only [iop] at h <;> first | cases h; done | skip
      obtain ⟨hz, h⟩ := ite_some h
      cases h; exact ⟨_, _, _, rfl, rfl, rfl, fun H Q q => ⟨_, _, rfl, rfl, hz, q⟩⟩⟩
  | _ => none
theorem s_aug {o : BOp} {op : Operator} {i : Nat} {x : Str} {p2 : Pos} (R : IRule X o op) (hN : X.N.Nodup) (hi : X.N[i]? = some x) (hx : Loc X.env.scope x) (ha : PE X a (ET Y W fa)) (hf : X.fn x = true ∨ X.env.scope.names.lookup x = some .local) (hP : (io && i == 0) = false → ¬ P i) :
    PS X (.AugAssign (.Name x p2) op a pos) (tS Y W P fun e => has e i ((fa e).bind fun y e => (match gt e i with
    | some x => (match iop o x y with
      | some z => (setNm io i z e).bind fun _ e => .ok .nx e
      | none => .bad)
    | none => .bad))) := by
  refine PS.imp (ps_aug hN hi hx ha R.ok hf) fun D σ H ⟨e, Z, O, he, g, hd⟩ => ?_
  obtain ⟨⟨t0, q0⟩, hd⟩ := has_ hd
  obtain ⟨v, hv⟩ := slot_of he q0
  refine ⟨v, hv, ?_⟩
  refine onT (R1 := RT Y) (Step.refl g) he Fix.refl hd fun y e2 u H2 Z2 U2 O2 he2 r2 s2 s3 kk hd => ?_
  cases q1 : gt e2 i with
  | none => rw [q1] at hd; exact hd.elim
  | some t =>
    simp only [q1] at hd
    cases q2 : iop o t y with
    | none => simp only [q2] at hd; exact hd.elim
    | some z =>
      simp only [q2] at hd
      obtain ⟨m, n, k, rfl, rfl, rfl, hr⟩ := R.by_ q2
      obtain ⟨Oi, Or, rt, hp, hn⟩ := slot_at hv he2 q1
      obtain ⟨rfl, _⟩ := int_of rt
      obtain ⟨rfl, rfl⟩ := int_of r2
      refine hr H2 _ ?_
      rw [den_bind] at hd
      obtain ⟨h1, h2, hd⟩ := setNm_ok hd
      obtain ⟨O', he', s4⟩ := put_ he2 h2 (rep_int (i := k)) s2
      exact hd _ H2 Z2 O' he' (Fix.set (hP h1)) s4
/-- o[i] of a list, by values -/
theorem get_list : PGet X (fun o i H Q => ∃ q xs k v, o = .ref q ∧ i = .int k ∧ SqL X.K H q xs ∧ atI xs k = some v ∧ Q v H) := by
  intro pins s σ H o i ov iv Q I ro ri h
  obtain ⟨q, xs, k, z, rfl, rfl, hq, he, qq⟩ := h
  cases ro
  obtain ⟨t, rfl⟩ := ri
  obtain ⟨its, r, pl, hz⟩ := I.list hq
  obtain ⟨j, h1, h2, h3, h4, h5⟩ := atI_get he
  obtain ⟨w, ew, rw'⟩ := r.get h2
  have hl := r.length
  have hn := line63
  have fin : EP X pins σ Q w s := ⟨z, H, I, rw', qq⟩
  by_cases h0 : 0 ≤ k
  · have hj : k.toNat = j := by
      rw [seqIndex_of h0 h5] at h1
      exact Option.some.inj h1
    exact wpAny_getItem_list pl.isList h0 (by omega) (by rw [hj]; simpa using ew) fin
  · have hj : (k + (its.toArray.size : Int)).toNat = j := by
      rw [seqIndex_neg (by omega) h4] at h1
      rw [List.size_toArray, ← hl]
      exact Option.some.inj h1
    exact wpAny_getItem_list_neg pl.isList (by omega) (by rw [List.size_toArray] <;> omega) (by omega) (by rw [hj]; simpa using ew) fin
theorem s_augi {o : BOp} {op : Operator} {x : Nat} {p2 : Pos} (R : IRule X o op) (hx : PE X a (tVar x)) (hi : PE X b (ET Y W fb)) (hc : PE X c (ET Y W fc))
    (ha : ∀ ov iv new, augStore b ov iv new = (do holding [new, ov, iv] (setItem ov iv new); release [new, ov, iv] []; pure .next)) :
    PS X (.AugAssign (.Subscript a b p2) op c pos) (tS Y W P fun e => has e x ((fb e).bind fun k e => (match gt e x with
    | some (.lst w ts) => (match at_ (.lst w ts) k with
      | some (.int u) => (fc e).bind fun y e => (match iop o (.int u) y with
        | some z => (setIx x k z e).bind fun _ e => .ok .nx e
        | none => .bad)
      | _ => .bad)
    | _ => .bad))) := by
  refine PS.imp (ps_augS hx hi get_list hc R.ok set_list ha) fun D σ H ⟨e, Z, O, he, g, hd⟩ => ?_
  obtain ⟨⟨t0, q0⟩, hd⟩ := has_ hd
  obtain ⟨v0, hv⟩ := slot_of he q0
  refine ⟨v0, hv, ?_⟩
  refine onT (R1 := RT Y) (Step.refl g) he Fix.refl hd fun k e2 iv H2 Z2 U2 O2 he2 r2 s2 s3 kk hd => ?_
  cases q1 : gt e2 x with
  | none => rw [q1] at hd; exact hd.elim
  | some t =>
    rw [q1] at hd
    cases t <;> first | exact hd.elim | skip
    rename_i o2 ts
    simp only at hd
    cases q2 : at_ (.lst o2 ts) k with
    | none => rw [q2] at hd; exact hd.elim
    | some u =>
      rw [q2] at hd
      cases u <;> first | exact hd.elim | skip
      rename_i u
      simp only at hd
      obtain ⟨Oi, Or, rt, hp, hn⟩ := slot_at hv he2 q1
      obtain ⟨k, rfl⟩ := at_int q2
      obtain ⟨rfl, rfl⟩ := int_of r2
      obtain ⟨q, xs, U', rfl, hq, rr, _⟩ := lst_of rt
      obtain ⟨j, h1, h2⟩ := atI_some (show atI ts k = some (.int u) from q2)
      obtain ⟨w, O1, Oi2, O2', e1, e2', _⟩ := rr.at_ h2
      obtain ⟨rfl, _⟩ := int_of e2'
      refine ⟨q, xs, k, .int u, rfl, rfl, rd_sq hq, by unfold atI; rw [← rr.len, h1]; exact e1, ?_⟩
      refine onT (R1 := RT Y) s2 he2 Fix.refl hd fun y e3 yv H3 Z3 U3 O3 he3 r3 s4 s5 k3 hd => ?_
      cases q4 : iop o (.int u) y with
      | none => simp only [q4] at hd; exact hd.elim
      | some z =>
        simp only [q4] at hd
        obtain ⟨m, n, kz, e5, rfl, rfl, hr⟩ := R.by_ q4
        cases e5
        obtain ⟨rfl, rfl⟩ := int_of r3
        refine hr H3 _ ?_
        rw [den_bind] at hd
        simp only [List.append_nil] at s5
        refine set_core (t := .int kz) (U := []) hv he3 rep_int (rep_int (i := k)) s5 (den_imp hd (fun _ e4 hok H' O' h1 h2 => ?_) fun _ _ _ z => z)
        exact hok σ H' Z3 O' h1 Fix.refl h2
theorem hasL_ {α : Type} {e : Env} {i : Nat} {r : Iv.R α} {ok : α → Env → Prop} {ex : Nat → T → Env → Prop} (h : Den0 ok ex (hasL e i r)) : (∃ o ts, gt e i = some (.lst o ts)) ∧ Den0 ok ex r := by
  unfold hasL at h
  cases q : gt e i with
  | none => rw [q] at h; exact h.elim
  | some t =>
    rw [q] at h
    cases t <;> first | exact h.elim | skip
    exact ⟨⟨_, _, rfl⟩, h⟩
/-- x.append(e) -/
theorem s_app {x : Nat} {apos cpos : Pos} {n : Str} (hn : n = "append") (hx : PE X a (tVar x)) (hb : PE X b (ET Y W fb)) (hbase : attributeBase a n X.env (eval a X.env) = eval a X.env) (hline : (apos.endLine == cpos.line) = true) (hs : notStar b = true) (hw : swapsWith (.Call (.Attribute a n apos) [b] [] cpos) none pos.line X.env = pure false) :
    PS X (.Expr (.Call (.Attribute a n apos) [b] [] cpos) pos) (tS Y W P fun e => hasL e x ((fb e).bind fun y e => (match gt e x with
    | some (.lst true ts) => if ts.length < SZ then .ok .nx (e.set x (some (.lst true (ts ++ [y])))) else .bad
    | _ => .bad))) := by
  subst hn
  refine PS.imp (ps_expr (pe_bm PySem.F.plainAttrs_list PySem.F.slot_list_append PySem.F.type_list_append mt_append hx (pa_cons hb pa_nil (star_cons hs)) hbase (by rw [star_cons hs]; rfl) hline (star_cons hs) rfl) hw) fun D σ H ⟨e, Z, O, he, g, hd⟩ => ?_
  obtain ⟨⟨o0, ts0, q0⟩, hd⟩ := hasL_ hd
  obtain ⟨v0, hv⟩ := slot_of he q0
  refine ⟨v0, hv, ?_, ?_⟩
  · obtain ⟨Oi, Or, rt, _, _⟩ := slot_at hv he q0
    obtain ⟨q, xs, U', rfl, hq, _⟩ := lst_of rt
    exact .inl ⟨rfl, xs, rd_sq hq⟩
  · refine onT (R1 := RT Y) (Step.refl g) he Fix.refl hd fun y e2 w H2 Z2 U2 O2 he2 r2 s2 s3 kk hd => ?_
    cases q1 : gt e2 x with
    | none => rw [q1] at hd; exact hd.elim
    | some t =>
      rw [q1] at hd
      cases t <;> first | exact hd.elim | skip
      rename_i o ts
      cases o with
      | false => exact hd.elim
      | true =>
        simp only at hd
        by_cases hz : ts.length < SZ
        · rw [if_pos hz] at hd
          obtain ⟨Oi, Or, rt, hp, hn⟩ := slot_at hv he2 q1
          obtain ⟨q, xs, U', rfl, hq, rr, rfl⟩ := lstT_of rt
          refine ⟨q, xs, w, rfl, rfl, hq, by rw [← rr.len, ← szEq]; exact hz, ?_⟩
          obtain ⟨O', he', s4⟩ := wr_ (D := []) hv (gt_lt q1) rfl hq s2 hp hn (rr.app (Reps.one r2)) (by rw [List.perm_iff_count]; intro x; simp only [List.count_append, List.nil_append]; omega)
          exact hd σ _ Z2 O' he' Fix.refl s4
        · rw [if_neg hz] at hd; exact hd.elim
/-! #### assignments -/
theorem s_asg {ft : T → Env → Iv.R Unit} (ha : PE X a (ET Y W fa)) (hg : PG X tg (tT Y W P ft)) (hs : swapsWithSole [tg] a pos.line X.env = pure false) (hw : swappedStores [tg] a X.env = pure none) (h1 : (assignEach [tg] X.env).map (·.2) = [assign tg X.env]) :
    PS X (.Assign [tg] a pos) (tS Y W P fun e => (fa e).bind fun x e => (ft x e).bind fun _ e => .ok .nx e) := PS.imp (ps_asg ha hg hs hw h1) fun D σ H h => asg_tr h
end
end Iv
set_option Elab.async false
set_option linter.all false
set_option maxRecDepth 100000
namespace Iv
open PySem PySem.Spec PyProof.Rows L2
/-! ### the text's own conditions -/
def isPlainIx : Expr → Bool
  | .Slice _ _ _ _ => false
  | _ => true
theorem plainIx_of {b : Expr} (h : isPlainIx b = true) : PlainIx b := by
  cases b <;> first | (exact fun _ _ => rfl) | cases h
theorem assign_sub {a b : Expr} {pos : Pos} {env : PySem.Env} (h : isPlainIx b = true) : ∀ v, assign (.Subscript a b pos) env v = (do
      let ov ← holding [v] (eval a env)
      let iv ← holding [v, ov] (eval b env)
      standAt pos
      holding [v, ov, iv] (setItem ov iv v)
      release [v, ov, iv] []) := by
  cases b <;> first | (exact fun _ => rfl) | cases h
theorem aug_store {b : Expr} (h : isPlainIx b = true) : ∀ ov iv new, augStore b ov iv new = (do holding [new, ov, iv] (setItem ov iv new); release [new, ov, iv] []; pure .next) := by
  cases b <;> first | (exact fun _ _ _ => rfl) | cases h
/-- a test as it stands -/
def plainT : Expr → Bool
  | .UnaryOp .Not _ _ => false
  | .BoolOp _ _ _ => false
  | .IfExp _ _ _ _ => false
  | .Compare _ _ _ _ => false
  | _ => true
theorem plainT_of {a : Expr} {env : PySem.Env} (h : plainT a = true) : ∀ whole, isTrue a env whole = (do let v ← whole; standAt a.pos; holding [v] (truthy v)) := by
  cases a <;> first | (exact fun _ => rfl) | cases h | skip
  rename_i op x pos
  cases op <;> first | (exact fun _ => rfl) | cases h
def notSet : Expr → Bool
  | .Set _ _ _ => false
  | _ => true
theorem notSet_of {a : Expr} (h : notSet a = true) (env : PySem.Env) : ∀ x, foldedSetIterable a env x = pure x := by
  cases a <;> first | (exact fun _ => rfl) | cases h
def notComp : Expr → Bool
  | .ListComp _ _ _ _ => false
  | .SetComp _ _ _ _ => false
  | .DictComp _ _ _ _ _ => false
  | _ => true
theorem notComp_of {a : Expr} {t : Option Expr} {l : Nat} {env : PySem.Env} (h : notComp a = true) : swapsWith a t l env = pure false := by
  cases a <;> first | rfl | cases h
/-- a comprehension that is stored in the plain way: not into a local name on its own line -/
def swF (sc : Scope) (x : Str) (px : Pos) : Expr → Bool
  | .ListComp _ _ cs p => !(sc.names.lookup x == some .local) || !(px.line == p.line) || (cs.names.any fun (n, k) => n == x && (k == .local || k == .cell))
  | _ => false
theorem swF_of {sc : Scope} {x : Str} {px : Pos} {v : Expr} {l : Nat} {env : PySem.Env} (he : env.scope = sc) (h : swF sc x px v = true) : swapsWith v (some (.Name x px)) l env = pure false := by
  cases v <;> simp only [swF] at h <;> first | cases h; done | skip
  rename_i y gens cs p
  unfold swapsWith
  have hk : env.kindOf x = sc.names.lookup x := by rw [← he]; rfl
  simp only [hk, Expr.pos]
  congr 1
  rcases Bool.or_eq_true_iff.mp h with h | h
  · rcases Bool.or_eq_true_iff.mp h with h | h
    · rw [Bool.not_eq_true'] at h
      rw [h]; simp
    · rw [Bool.not_eq_true'] at h
      rw [h]; simp
  · rw [h]; simp
def isName (sc : Scope) : Expr → Bool
  | .Name n _ => sc.names.lookup n == some .local
  | _ => false
/-- the stores of a, b = .. are not swapped -/
def swN (sc : Scope) : Expr → Expr → Bool
  | .Tuple ts _ _, .Tuple vs _ _ => vs.all (foldedForSure 8) || ts.any fun t => !isName sc t
  | .List _ _, .Tuple _ _ _ => false
  | _, _ => true
theorem names_len {ts : List Expr} {env : PySem.Env} {line : Nat} (h : (ts.any fun t => !isName env.scope t) = true) :
    ((ts.filterMap fun
      | .Name id pos => if env.kindOf id == some .local && pos.line == line then some id else none
      | _ => none).length != ts.length) = true := by
  have key : ∀ ts : List Expr, (ts.filterMap fun
      | .Name id pos => if env.kindOf id == some .local && pos.line == line then some id else none
      | _ => none).length ≤ ts.length := fun ts => List.length_filterMap_le _ _
  have lt : ∀ ts : List Expr, (ts.any fun t => !isName env.scope t) = true → (ts.filterMap fun
      | .Name id pos => if env.kindOf id == some .local && pos.line == line then some id else none
      | _ => none).length < ts.length := by
    intro ts
    induction ts with
    | nil => intro h; cases h
    | cons t ts ih =>
      intro h
      rw [List.any_cons, Bool.or_eq_true] at h
      rcases h with h | h
      · have hk := key ts
        rw [List.filterMap_cons]
        cases t <;> first | (simp only [List.length_cons]; omega) | skip
        rename_i n q
        have hn : (env.kindOf n == some .local) = false := (Bool.not_eq_true' _).mp h
        simp only [hn, Bool.false_and, Bool.false_eq_true, if_false, List.length_cons]
        omega
      · have hk := ih h
        rw [List.filterMap_cons]
        split
        · simp only [List.length_cons]; omega
        · simp only [List.length_cons]; omega
  have := lt ts h
  rw [bne_iff_ne]; omega
theorem swN_of {sc : Scope} {t v : Expr} {env : PySem.Env} (he : env.scope = sc) (h : swN sc t v = true) : swappedStores [t] v env = pure none := by
  unfold swappedStores
  cases t <;> first | (cases v <;> rfl) | skip
  · cases v <;> first | rfl | cases h
  · rename_i ts k p
    cases v <;> first | rfl | skip
    rename_i vs k2 p2
    subst he
    have h : (vs.all (foldedForSure 8) || ts.any fun t => !isName env.scope t) = true := h
    simp only
    split
    · rfl
    · split
      · rfl
      · rcases Bool.or_eq_true_iff.mp h with h | h
        · split
          · rfl
          · first | rfl | rw [if_pos h]
        · first | rfl | (rw [if_pos]; rw [Bool.or_eq_true]; exact .inl (names_len h))
/-- .. are swapped: plain local names -/
theorem sw2 {x y : Str} {px py pt : Pos} {a b : Expr} {kt k2 : Nat} {p2 : Pos} {env : PySem.Env} (hk : env.scope.kind = .function) (hx : env.scope.names.lookup x = some .local) (hy : env.scope.names.lookup y = some .local) (hl : (py.line == px.line) = true) (hne : x ≠ y) (ha : notStar a = true) (hb : notStar b = true)
    (h1 : [a, b].all (foldedForSure 8) = false) (h2 : [a, b].all (constantsAlone 8) = false) : swappedStores [.Tuple [.Name x px, .Name y py] kt pt] (.Tuple [a, b] k2 p2) env = pure (some [x, y]) := by
  have hbk : env.blockKind = .function := by unfold Env.blockKind; rw [hk]; rfl
  have kx : env.kindOf x = some .local := hx
  have ky : env.kindOf y = some .local := hy
  have hs : ([a, b].any fun | .Starred .. => true | _ => false) = false := by
    cases a <;> first | cases ha; done | skip
    all_goals (cases b <;> first | cases hb; done | rfl)
  have hd : ([x, y] : List Str).eraseDups = [x, y] := by
    have : (y == x) = false := beq_eq_false_iff_ne.mpr (Ne.symm hne)
    simp [List.eraseDups_cons, this]
  unfold swappedStores
  simp only [hbk, hs, h1, h2, kx, ky, hd, List.filterMap_cons, List.filterMap_nil, List.head?_cons, Option.map_some, Option.getD_some, Expr.pos, hl, List.length_cons, List.length_nil]
  simp
  rw [if_neg, hd]
  · rfl
  · rintro (h | h)
    · cases a <;> first | (cases ha; done) | (cases h; done)
    · cases b <;> first | (cases hb; done) | (cases h; done)
theorem sw3 {x y z : Str} {px py pz pt : Pos} {a b c : Expr} {kt k2 : Nat} {p2 : Pos} {env : PySem.Env} (hk : env.scope.kind = .function) (hx : env.scope.names.lookup x = some .local) (hy : env.scope.names.lookup y = some .local) (hz : env.scope.names.lookup z = some .local) (hl : (py.line == px.line) = true) (hl2 : (pz.line == px.line) = true) (hxy : x ≠ y) (hxz : x ≠ z) (hyz : y ≠ z) (ha : notStar a = true) (hb : notStar b = true) (hc : notStar c = true)
    (h1 : [a, b, c].all (foldedForSure 8) = false) (h2 : [a, b, c].all (constantsAlone 8) = false) : swappedStores [.Tuple [.Name x px, .Name y py, .Name z pz] kt pt] (.Tuple [a, b, c] k2 p2) env = pure (some [x, y, z]) := by
  have hbk : env.blockKind = .function := by unfold Env.blockKind; rw [hk]; rfl
  have kx : env.kindOf x = some .local := hx
  have ky : env.kindOf y = some .local := hy
  have kz : env.kindOf z = some .local := hz
  have hd : ([x, y, z] : List Str).eraseDups = [x, y, z] := by
    have e1 : (y == x) = false := beq_eq_false_iff_ne.mpr (Ne.symm hxy)
    have e2 : (z == x) = false := beq_eq_false_iff_ne.mpr (Ne.symm hxz)
    have e3 : (z == y) = false := beq_eq_false_iff_ne.mpr (Ne.symm hyz)
    simp [List.eraseDups_cons, e1, e2, e3]
  unfold swappedStores
  simp only [hbk, h1, h2, kx, ky, kz, hd, List.filterMap_cons, List.filterMap_nil, List.head?_cons, Option.map_some, Option.getD_some, Expr.pos, hl, hl2, List.length_cons, List.length_nil]
  simp
  rw [if_neg, hd]
  · rfl
  · rintro (h | h | h)
    · cases a <;> first | (cases ha; done) | (cases h; done)
    · cases b <;> first | (cases hb; done) | (cases h; done)
    · cases c <;> first | (cases hc; done) | (cases h; done)
/-! ### a def's own facts for the check -/
structure Ck where
  N : List Str
  sc : Scope
  cl : Str → Bool
  fns : List FnI
  bn : List Str
  io : Bool
def visB (sc : Scope) (x : Str) : Bool := match sc.names.lookup x with
  | some .local => true
  | some .cell => true
  | some .free => true
  | _ => false
theorem visB_of {sc : Scope} {x : Str} (h : visB sc x = true) : Vis sc x := by
  unfold visB at h
  unfold Vis
  split at h
  · exact .inl ‹_›
  · exact .inr (.inl ‹_›)
  · exact .inr (.inr ‹_›)
  · cases h
def Ck.nm (c : Ck) (i : Nat) (x : Str) : Bool := decide (c.N[i]? = some x) && visB c.sc x && !(x == ("__debug__" : Str)) && !(x == ("__classdict__" : Str))
def Ck.st (c : Ck) (i : Nat) (x : Str) : Bool := decide (c.N[i]? = some x) && (match c.sc.names.lookup x with
  | some .local => true
  | some .cell => c.cl x
  | _ => false)
def Ck.gl (c : Ck) (x : Str) : Bool := decide (c.sc.names.lookup x = some .globalImplicit) && !(x == ("__debug__" : Str))
def Ck.bu (c : Ck) (x : Str) : Bool := c.gl x && c.bn.contains x
structure GX (Y : Par) (C : Cn) (k : Nat) (c : Ck) (X : Cx) : Prop where
  N : X.N = c.N
  nd : c.N.Nodup
  sc : X.env.scope = c.sc
  kd : c.sc.kind = .function
  calm : X.calm = true
  room : Room k X.A
  fn : ∀ x, c.cl x = true → X.fn x = true
  io : C.io = c.io
  K : X.K = Y.Cl.K
  fns : ∀ (f : Nat) (i : FnI), c.fns[f]? = some i → FnHas Y X k i (C.call f)
  bl : ∀ x ∈ c.bn, X.mg x = none
section
variable {Y : Par} {C : Cn} {k : Nat} {c : Ck} {X : Cx}
theorem GX.Nd (G : GX Y C k c X) : X.N.Nodup := by rw [G.N]; exact G.nd
theorem GX.pe (G : GX Y C k c X) {i : Nat} {x : Str} {pos : Pos} (h : c.nm i x = true) : PE X (.Name x pos) (tVar i) := by
  unfold Ck.nm at h
  simp only [Bool.and_eq_true, decide_eq_true_eq, Bool.not_eq_true'] at h
  obtain ⟨⟨⟨h1, h2⟩, h3⟩, h4⟩ := h
  exact pe_var (by rw [G.N]; exact h1) (by rw [G.sc]; exact visB_of h2) h3 h4
theorem GX.st (G : GX Y C k c X) {i : Nat} {x : Str} (h : c.st i x = true) : X.N[i]? = some x ∧ Loc X.env.scope x ∧ (X.fn x = true ∨ X.env.scope.names.lookup x = some .local) := by
  unfold Ck.st at h
  simp only [Bool.and_eq_true, decide_eq_true_eq] at h
  obtain ⟨h1, h2⟩ := h
  rw [G.N, G.sc]
  refine ⟨h1, ?_⟩
  split at h2
  · exact ⟨.inl ‹_›, .inr ‹_›⟩
  · exact ⟨.inr ‹_›, .inl (G.fn x h2)⟩
  · cases h2
theorem GX.gl (G : GX Y C k c X) {x : Str} (h : c.gl x = true) : Gl X x ∧ (x == ("__debug__" : Str)) = false := by
  unfold Ck.gl at h
  simp only [Bool.and_eq_true, decide_eq_true_eq, Bool.not_eq_true'] at h
  refine ⟨?_, h.2⟩
  show X.env.scope.names.lookup x = _
  rw [G.sc]; exact h.1
theorem GX.bu (G : GX Y C k c X) {x : Str} (h : c.bu x = true) : Gl X x ∧ X.mg x = none := by
  unfold Ck.bu at h
  rw [Bool.and_eq_true] at h
  refine ⟨(G.gl h.1).1, G.bl x ?_⟩
  exact List.contains_iff_mem.mp h.2
theorem GX.u65 (G : GX Y C k c X) : X.A.units + 65 < cLine := by have := G.room.un; omega
/-- a comprehension's block -/
def Ck.blk (c : Ck) (sc : Scope) : Ck := { c with sc := relS sc c.sc, cl := fun x => sc.names.lookup x == some .cell }
theorem GX.blk (G : GX Y C k c X) {sc : Scope} (hk : sc.kind = .function) (s : Shared) (H : Hp) (D : Addr) (cl : List (Str × Addr)) (fp : List Addr) : GX Y C k (c.blk sc) (X.blk s H sc (compEnvC sc cl D X.env) fp) := by
  refine ⟨G.N, G.nd, ?_, hk, G.calm, G.room, (fun x h => h), G.io, G.K, G.fns, G.bl⟩
  show relabel sc X.env = relS sc c.sc
  rw [← G.sc]
  rfl
theorem takesF : Takes X Wf := fun _ _ x => by
  obtain ⟨_, _, _, _, _, _, _, _, _, _, _, _, _, _, _, _, w⟩ := x
  exact w.elim
end
end Iv
set_option Elab.async false
set_option linter.all false
set_option maxRecDepth 100000
namespace Iv
open PySem PySem.Spec PyProof.Rows L2
/-! ### the check of a text -/
def opB : BOp → Option Operator
  | .add => some .Add
  | .sub => some .Sub
  | .mul => some .Mult
  | .fdiv => some .FloorDiv
  | .mod => some .Mod
  | .pow => some .Pow
  | _ => none
structure BRule (Y : Par) (X : Cx) (o : BOp) (op : Operator) where
  r : R2
  ok : OpR X (binaryOp op) r
  by_ : BinOk Y o r
def brule (Y : Par) (X : Cx) : (o : BOp) → {op : Operator} → opB o = some op → BRule Y X o op
  | .add, _, h => by cases h; exact ⟨_, op_addB, add_ok⟩
  | .sub, _, h => by cases h; exact ⟨_, op_sub, sub_ok⟩
  | .mul, _, h => by cases h; exact ⟨_, op_mulAll, mul_ok⟩
  | .fdiv, _, h => by cases h; exact ⟨_, op_fdivB, fdiv_ok⟩
  | .mod, _, h => by cases h; exact ⟨_, op_modN, mod_ok⟩
  | .pow, _, h => by cases h; exact ⟨_, op_pow, pow_ok⟩
  | .shl, _, h => by cases h
  | .shr, _, h => by cases h
  | .band, _, h => by cases h
  | .bor, _, h => by cases h
def opI : BOp → Option Operator
  | .add => some .Add
  | .sub => some .Sub
  | .mul => some .Mult
  | _ => none
def irule2 (X : Cx) : (o : BOp) → {op : Operator} → opI o = some op → IRule X o op
  | .add, _, h => by cases h; exact ((irule X .add).get rfl).2
  | .sub, _, h => by cases h; exact ((irule X .sub).get rfl).2
  | .mul, _, h => by cases h; exact ((irule X .mul).get rfl).2
  | .fdiv, _, h => by cases h
  | .mod, _, h => by cases h
  | .pow, _, h => by cases h
  | .shl, _, h => by cases h
  | .shr, _, h => by cases h
  | .band, _, h => by cases h
  | .bor, _, h => by cases h
def tailB (op : BoolOp) (r : Expr) (rest : List Expr) (p : Pos) : Expr := match rest with
  | [] => r
  | _ => .BoolOp op (r :: rest) p
def namesOf (c : Ck) (own : List Nat) : List (Str × Nat) := own.map fun i => ((c.N[i]?).getD "", i)
theorem namesOf_ix (c : Ck) (own : List Nat) : (namesOf c own).map (·.2) = own := by
  unfold namesOf
  rw [List.map_map]
  show own.map (fun i => i) = own
  simp
/-- a call of a def -/
def chCall (c : Ck) (f : Nat) (io : Bool) (n : Nat) (x : Str) : Bool := match c.fns[f]? with
  | some i => decide (i.name = x) && decide (i.n = n) && (i.io == io) && c.gl x
  | none => false
theorem chCall_of {Y : Par} {C : Cn} {k : Nat} {c : Ck} {X : Cx} (G : GX Y C k c X) {f n : Nat} {io : Bool} {x : Str} (h : chCall c f io n x = true) : FnHas Y X k ⟨x, n, io⟩ (C.call f) ∧ Gl X x ∧ (x == ("__debug__" : Str)) = false := by
  unfold chCall at h
  cases q : c.fns[f]? with
  | none => rw [q] at h; cases h
  | some i =>
    rw [q] at h
    simp only [Bool.and_eq_true, decide_eq_true_eq, beq_iff_eq] at h
    obtain ⟨⟨⟨h1, h2⟩, h3⟩, h4⟩ := h
    have := G.fns f i q
    obtain ⟨nm, nn, ii⟩ := i
    subst h1 h2 h3
    exact ⟨this, G.gl h4⟩
mutual
def chPv (c : Ck) : E → Expr → Bool
  | .var i, x => (match x with
    | .Name n _ => c.nm i n
    | _ => false)
  | .int i, x => (match x with
    | .Constant (.int j) _ _ => decide (i = j)
    | _ => false)
  | .bin .add a b, x => (match x with
    | .BinOp l .Add r _ => chPv c a l && chPv c b r
    | _ => false)
  | .bin .sub a b, x => (match x with
    | .BinOp l .Sub r _ => chPv c a l && chPv c b r
    | _ => false)
  | .neg a, x => (match x with
    | .UnaryOp .USub l _ => chPv c a l
    | _ => false)
  | _, _ => false
/-- t: as a test -/
def chE (c : Ck) (t : Bool) : E → Expr → Bool
  | .var i, x => (!t || plainT x) && (match x with
    | .Name n _ => c.nm i n
    | _ => false)
  | .mov i, x => (!t || plainT x) && (match x with
    | .Name n _ => c.nm i n
    | _ => false)
  | .non, x => (!t || plainT x) && (match x with
    | .Constant .none _ _ => true
    | _ => false)
  | .bl b, x => (!t || plainT x) && (match x with
    | .Constant (.bool d) _ _ => b == d
    | _ => false)
  | .int i, x => (!t || plainT x) && (match x with
    | .Constant (.int j) _ _ => decide (i = j)
    | _ => false)
  | .str s, x => (!t || plainT x) && (match x with
    | .Constant (.str u) _ _ => decide (s = u)
    | _ => false)
  | .tup es, x => (!t || plainT x) && (match x with
    | .Tuple xs _ _ => chEs c es xs && decide (xs.length ≤ SZ)
    | _ => false)
  | .lst es, x => (!t || plainT x) && (match x with
    | .List xs _ => chEs c es xs && decide (xs.length ≤ SZ)
    | _ => false)
  | .bin o a b, x => (!t || plainT x) && (match x with
    | .BinOp l op r _ => decide (opB o = some op) && chE c false a l && chE c false b r
    | _ => false)
  | .neg a, x => (!t || plainT x) && (match x with
    | .UnaryOp .USub l _ => chE c false a l
    | _ => false)
  | .not a, x => (match x with
    | .UnaryOp .Not l _ => chE c t a l
    | _ => false)
  | .and a b, x => (match x with
    | .BoolOp .And (l :: r :: rest) p => chE c t a l && chE c t b (tailB .And r rest p)
    | _ => false)
  | .or a b, x => (match x with
    | .BoolOp .Or (l :: r :: rest) p => chE c t a l && chE c t b (tailB .Or r rest p)
    | _ => false)
  | .ife d a b, x => !t && (match x with
    | .IfExp y l r _ => chE c true d y && chE c false a l && chE c false b r
    | _ => false)
  | .cmp o a b, x => (match x with
    | .Compare l [op] [r] _ => decide (opC o = op) && !behindInMarks op r && chE c false a l && chE c false b r
    | _ => false)
  | .cmpL o i b, x => (match x with
    | .Compare (.Name n _) [op] [r] _ => decide (opC o = op) && !behindInMarks op r && c.nm i n && chE c false b r
    | _ => false)
  | .cmpR o a i, x => (match x with
    | .Compare l [op] [.Name n p] _ => decide (opC o = op) && !behindInMarks op (.Name n p) && chE c false a l && c.nm i n
    | _ => false)
  | .chain o p a b d, x => (match x with
    | .Compare l [op, op'] [m, r] _ => decide (opC o = op) && decide (opC p = op') && !lastMarks [op, op'] [m, r] && chE c false a l && chE c false b m && chE c false d r
    | _ => false)
  | .isn ng a, x => (match x with
    | .Compare l [op] [.Constant .none _ _] _ => decide (op = if ng then .IsNot else .Is) && chE c false a l
    | _ => false)
  | .isnv ng i, x => (match x with
    | .Compare (.Name n _) [op] [.Constant .none _ _] _ => decide (op = if ng then .IsNot else .Is) && c.nm i n
    | _ => false)
  | .isb ng a d, x => (match x with
    | .Compare l [op] [.Constant (.bool d') _ _] _ => decide (op = if ng then .IsNot else .Is) && (d == d') && chE c false a l
    | _ => false)
  | .ix i b, x => (!t || plainT x) && (match x with
    | .Subscript (.Name n _) r _ => c.nm i n && isPlainIx r && chE c false b r
    | _ => false)
  | .ix2 i b j, x => (!t || plainT x) && (match x with
    | .Subscript (.Subscript (.Name n _) r _) q _ => c.nm i n && isPlainIx r && isPlainIx q && chE c false b r && chPv c j q
    | _ => false)
  | .idx a b, x => (!t || plainT x) && (match x with
    | .Subscript l r _ => isPlainIx r && chE c false a l && chE c false b r
    | _ => false)
  | .sl a lo hi, x => (!t || plainT x) && (match x with
    | .Subscript l (.Slice u v none _) _ => chE c false a l && chO c lo u && chO c hi v
    | _ => false)
  | .slv i lo hi, x => (!t || plainT x) && (match x with
    | .Subscript (.Name n _) (.Slice u v none _) _ => c.nm i n && chO c lo u && chO c hi v
    | _ => false)
  | .rev a, x => (!t || plainT x) && (match x with
    | .Subscript l (.Slice none none (some (.UnaryOp .USub (.Constant (.int 1) _ _) _)) _) _ => chE c false a l
    | _ => false)
  | .revv i, x => (!t || plainT x) && (match x with
    | .Subscript (.Name n _) (.Slice none none (some (.UnaryOp .USub (.Constant (.int 1) _ _) _)) _) _ => c.nm i n
    | _ => false)
  | .call f as, x => (!t || plainT x) && (match x with
    | .Call (.Name n _) (y :: ys) [] _ => chCall c f false as.len n && (y :: ys).all notStar && chEs c as (y :: ys)
    | _ => false)
  | .cio f i as, x => (!t || plainT x) && (match x with
    | .Call (.Name n _) (.Name m p :: ys) [] _ => chCall c f true (as.len + 1) n && (Expr.Name m p :: ys).all notStar && c.nm i m && chEs c as ys
    | _ => false)
  | .prim q a, x => (!t || plainT x) && (match x with
    | .Call (.Name n _) [y] [] _ => (match primV q with
      | some (m, _) => decide (m = n) && c.bu n && notStar y && chE c false a y
      | none => false)
    | _ => false)
  | .primv q i, x => (!t || plainT x) && (match x with
    | .Call (.Name n _) [.Name m _] [] _ => (match primV q with
      | some (u, _) => decide (u = n) && c.bu n && c.nm i m
      | none => false)
    | _ => false)
  | .prim2 q a b, x => (!t || plainT x) && (match x with
    | .Call (.Name n _) [y, z] [] _ => (match prim2V q with
      | some (u, _) => decide (u = n) && c.bu n && notStar y && notStar z && chE c false a y && chE c false b z
      | none => false)
    | _ => false)
  | .isi a k, x => (!t || plainT x) && (match x with
    | .Call (.Name n _) [y, .Name m _] [] _ => (match kdV k with
      | some s => decide (n = "isinstance") && decide (m = Str.ofString s) && c.bu n && c.bu m && notStar y && chE c false a y
      | none => false)
    | _ => false)
  | .isiv i k, x => (!t || plainT x) && (match x with
    | .Call (.Name n _) [.Name v _, .Name m _] [] _ => (match kdV k with
      | some s => decide (n = "isinstance") && decide (m = Str.ofString s) && c.bu n && c.bu m && c.nm i v
      | none => false)
    | _ => false)
  | .lc own tg s d e, x => (!t || plainT x) && (match x with
    | .ListComp y [⟨u, v, ifs, 0⟩] sc _ => decide own.Nodup && blkC c.N c.sc sc (namesOf c own) && decide (sc.kind = .function) && notSet v && chS c s u v && chG (c.blk sc) (some own) tg u && chC (c.blk sc) d ifs && chE (c.blk sc) false e y
    | _ => false)
  | .lc2 own tg s d own2 tg2 s2 d2 e, x => (!t || plainT x) && (match x with
    | .ListComp y [⟨u, v, ifs, 0⟩, ⟨u2, v2, ifs2, 0⟩] sc _ => decide own.Nodup && blkC c.N c.sc sc (namesOf c own) && decide (sc.kind = .function) && own2.all (fun i => own.contains i) && notSet v && notSet v2 && chS c s u v && chG (c.blk sc) (some own) tg u && chC (c.blk sc) d ifs &&
        chS (c.blk sc) s2 u2 v2 && chG (c.blk sc) (some own2) tg2 u2 && chC (c.blk sc) d2 ifs2 && chE (c.blk sc) false e y
    | _ => false)
  | .never, _ => true
  | _, _ => false
def chEs (c : Ck) : Es → List Expr → Bool
  | .nil, xs => xs.isEmpty
  | .cons a r, xs => (match xs with
    | y :: ys => notStar y && chE c false a y && chEs c r ys
    | [] => false)
def chO (c : Ck) : Eo → Option Expr → Bool
  | .non, x => x.isNone
  | .som a, x => (match x with
    | some y => chE c false a y
    | none => false)
def chC (c : Ck) : Eo → List Expr → Bool
  | .non, x => x.isEmpty
  | .som a, x => (match x with
    | [y] => chE c true a y
    | _ => false)
def chS (c : Ck) : Sr → Expr → Expr → Bool
  | .seq a, _, x => notSet x && chE c false a x
  | .rg1 a, _, x => (match x with
    | .Call (.Name n _) [y] [] _ => decide (n = "range") && c.bu n && notStar y && chE c false a y
    | _ => false)
  | .rg2 a b, _, x => (match x with
    | .Call (.Name n _) [y, z] [] _ => decide (n = "range") && c.bu n && notStar y && notStar z && chE c false a y && chE c false b z
    | _ => false)
  | .zip a b, tg, x => (match tg, x with
    | .Tuple _ _ _, .Call (.Name n _) [y, z] [] _ => decide (n = "zip") && c.bu n && notStar y && notStar z && chE c false a y && chE c false b z
    | _, _ => false)
def chG (c : Ck) (own : Option (List Nat)) : Tg → Expr → Bool
  | .nm i, x => (match x with
    | .Name n _ => c.st i n && (match own with
      | none => true
      | some l => l.contains i)
    | _ => false)
  | .ix i b, x => (match x with
    | .Subscript (.Name n _) r _ => c.nm i n && isPlainIx r && chE c false b r
    | _ => false)
  | .ix2 i b j, x => (match x with
    | .Subscript (.Subscript (.Name n _) r _) q _ => c.nm i n && isPlainIx r && isPlainIx q && chE c false b r && chPv c j q
    | _ => false)
  | .tp ts, x => (match x with
    | .Tuple es _ _ => chGs c own ts es
    | _ => false)
def chGs (c : Ck) (own : Option (List Nat)) : Tgs → List Expr → Bool
  | .nil, xs => xs.isEmpty
  | .cons g r, xs => (match xs with
    | y :: ys => notStar y && chG c own g y && chGs c own r ys
    | [] => false)
end
def parC (c : Ck) : List Nat → List Expr → List Expr → Bool
  | [i, j], ts, vs => (match ts, vs with
    | [.Name x px, .Name y py], [a, b] => decide (c.N[i]? = some x) && decide (c.N[j]? = some y) && decide (i ≠ j) && decide (x ≠ y) && decide (c.sc.names.lookup x = some .local) && decide (c.sc.names.lookup y = some .local) &&
        (py.line == px.line) && notStar a && notStar b && !([a, b].all (foldedForSure 8)) && !([a, b].all (constantsAlone 8))
    | _, _ => false)
  | [i, j, l], ts, vs => (match ts, vs with
    | [.Name x px, .Name y py, .Name z pz], [a, b, d] => decide (c.N[i]? = some x) && decide (c.N[j]? = some y) && decide (c.N[l]? = some z) && decide (i ≠ j) && decide (i ≠ l) && decide (j ≠ l) && decide (x ≠ y) && decide (x ≠ z) && decide (y ≠ z) &&
        decide (c.sc.names.lookup x = some .local) && decide (c.sc.names.lookup y = some .local) && decide (c.sc.names.lookup z = some .local) &&
        (py.line == px.line) && (pz.line == px.line) && notStar a && notStar b && notStar d && !([a, b, d].all (foldedForSure 8)) && !([a, b, d].all (constantsAlone 8))
    | _, _ => false)
  | _, _, _ => false
/-- a comprehension that is stored into a name on its own line -/
def swT (c : Ck) (x : Str) (px : Pos) : Expr → Bool
  | .ListComp _ _ sc p => decide (c.sc.names.lookup x = some .local) && (px.line == p.line) && !(sc.names.any fun (n, k) => n == x && (k == .local || k == .cell))
  | _ => false
def isLc : E → Bool
  | .lc _ _ _ _ _ => true
  | .lc2 _ _ _ _ _ _ _ _ _ => true
  | _ => false
mutual
def chSt (c : Ck) : S → Stmt → Bool
  | .asg g e, x => (match x with
    | .Assign [u] v _ => (match g, u with
      | .nm i, .Name n p => decide (c.N[i]? = some n) && (((notComp v || swF c.sc n p v) && c.st i n) || (swT c n p v && isLc e)) && chE c false e v
      | _, _ => notComp v && swN c.sc u v && notStar u && chG c none g u && chE c false e v)
    | _ => false)
  | .par is es, x => (match x with
    | .Assign [.Tuple ts _ _] (.Tuple vs _ _) _ => parC c is ts vs && chEs c es vs
    | _ => false)
  | .aug i o e, x => (match x with
    | .AugAssign (.Name n _) op v _ => decide (opI o = some op) && c.st i n && chE c false e v
    | _ => false)
  | .augi i b o e, x => (match x with
    | .AugAssign (.Subscript (.Name n _) r _) op v _ => decide (opI o = some op) && c.nm i n && isPlainIx r && chE c false b r && chE c false e v
    | _ => false)
  | .app i e, x => (match x with
    | .Expr (.Call (.Attribute (.Name n _) m p) [y] [] q) _ => decide (m = "append") && c.nm i n && (p.endLine == q.line) && notStar y && chE c false e y
    | _ => false)
  | .exp e, x => (match x with
    | .Expr y _ => notComp y && chE c false e y
    | _ => false)
  | .ife d a b, x => (match x with
    | .If y th el _ => chE c true d y && chSts c a th && chSts c b el
    | _ => false)
  | .whl d b, x => (match x with
    | .While y th [] _ => chE c true d y && chSts c b th
    | _ => false)
  | .for g s b, x => (match x with
    | .For u v th [] _ => notSet v && chS c s u v && chG c none g u && chSts c b th
    | _ => false)
  | .ret e, x => (match x with
    | .Return (some y) _ => chE c false e y
    | _ => false)
  | .retN, x => (match x with
    | .Return none _ => true
    | _ => false)
  | .brk, x => (match x with
    | .Break _ => true
    | _ => false)
  | .cont, x => (match x with
    | .Continue _ => true
    | _ => false)
  | .pass, x => (match x with
    | .Pass _ => true
    | .Expr (.Constant (.str _) _ _) _ => true
    | _ => false)
  | .never, _ => true
  | _, _ => false
def chSts (c : Ck) : Ss → List Stmt → Bool
  | .nil, xs => xs.isEmpty
  | .cons s r, xs => (match xs with
    | y :: ys => chSt c s y && chSts c r ys
    | [] => false)
end
end Iv
set_option Elab.async false
set_option linter.all false
set_option maxRecDepth 100000
namespace Iv
open PySem PySem.Spec PyProof.Rows L2
structure EOk (Y : Par) (C : Cn) (c : Ck) (X : Cx) (W : WX) (e : E) (x : Expr) : Prop where
  v : chE c false e x = true → PE X x (ET Y W (ev C e))
  t : chE c true e x = true → PT X x (EB Y W fun en => asB (ev C e en)) ∧ ∀ op vs p, x = .BoolOp op vs p → PW X x (EB Y W fun en => asB (ev C e en))
  s : isLc e = true → chE c false e x = true → ∀ (i : Nat) (n : Str) (p pos : Pos), swapsWith x (some (.Name n p)) pos.line X.env = pure true → X.N[i]? = some n → X.env.scope.names.lookup n = some .local → PS X (.Assign [.Name n p] x pos) (tAsg (ET Y W (ev C e)) (gName i))
section
variable {Y : Par} {C : Cn} {k : Nat} {c : Ck} {X : Cx} {W : WX} {e : E} {x : Expr}
theorem ok_plain {B : Bool} (hB : ∀ t, chE c t e x = ((!t || plainT x) && B)) (hl : isLc e = false) (h2 : B = true → PE X x (ET Y W (ev C e))) : EOk Y C c X W e x := by
  refine ⟨fun h => ?_, fun h => ?_, fun h => by rw [hl] at h; cases h⟩
  · rw [hB] at h
    exact h2 (by simpa using h)
  · rw [hB] at h
    simp only [Bool.not_true, Bool.false_or, Bool.and_eq_true] at h
    refine ⟨t_val (h2 h.2) (plainT_of h.1), fun op vs p ex => ?_⟩
    rw [ex] at h
    cases h.1
theorem ok_test {B : Bool} (hB : ∀ t, chE c t e x = B) (hl : isLc e = false) (h2 : B = true → PE X x (ET Y W (ev C e)) ∧ PT X x (EB Y W fun en => asB (ev C e en)) ∧ ∃ l ops rs p, x = .Compare l ops rs p) : EOk Y C c X W e x := by
  refine ⟨fun h => ?_, fun h => ?_, fun h => by rw [hl] at h; cases h⟩
  · rw [hB] at h
    exact (h2 h).1
  · rw [hB] at h
    obtain ⟨_, h1, l, ops, rs, q, ex⟩ := h2 h
    exact ⟨h1, fun op vs p e2 => by rw [e2] at ex; cases ex⟩
theorem evs_len : ∀ {es : Es} {e e' : Env} {ts : List T}, evs C es e = .ok ts e' → ts.length = es.len
  | .nil, e, e', ts, h => by rw [evs] at h; cases h; rfl
  | .cons a r, e, e', ts, h => by
    rw [evs] at h
    cases q : ev C a e with
    | bad => rw [q] at h; cases h
    | exc _ _ _ => rw [q] at h; cases h
    | ok t e1 =>
      rw [q, R.bind_ok] at h
      cases q2 : evs C r e1 with
      | bad => rw [q2] at h; cases h
      | exc _ _ _ => rw [q2] at h; cases h
      | ok us e2 =>
        rw [q2, R.bind_ok] at h
        cases h
        rw [List.length_cons, evs_len q2]; rfl
theorem chEs_len : ∀ {es : Es} {xs : List Expr}, chEs c es xs = true → es.len = xs.length
  | .nil, xs, h => by unfold chEs at h; cases xs <;> first | rfl | cases h
  | .cons a r, xs, h => by
    unfold chEs at h
    cases xs with
    | nil => cases h
    | cons y ys =>
      simp only [Bool.and_eq_true] at h
      show r.len + 1 = _
      rw [chEs_len h.2]; rfl
theorem chEs_star : ∀ {es : Es} {xs : List Expr}, chEs c es xs = true → xs.all notStar = true
  | .nil, xs, h => by unfold chEs at h; cases xs <;> first | rfl | cases h
  | .cons a r, xs, h => by
    unfold chEs at h
    cases xs with
    | nil => cases h
    | cons y ys =>
      simp only [Bool.and_eq_true] at h
      rw [List.all_cons, h.1.1, chEs_star h.2]; rfl
theorem pv_ok (G : GX Y C k c X) : ∀ (e : E) {x : Expr}, chPv c e x = true → PE X x (tPv Y (pv e))
  | .var i, x, h => by
    unfold chPv at h; split at h <;> first | cases h; done | skip
    exact pv_var (G.pe h)
  | .int i, x, h => by
    unfold chPv at h; split at h <;> first | cases h; done | skip
    have h := of_decide_eq_true h
    subst h
    exact pv_int
  | .bin o a b, x, h => by
    cases o <;> simp only [chPv] at h <;> first | cases h; done | skip
    · split at h <;> first | cases h; done | skip
      have h := Bool.and_eq_true_iff.mp h
      exact pv_add (pv_ok G a h.1) (pv_ok G b h.2)
    · split at h <;> first | cases h; done | skip
      have h := Bool.and_eq_true_iff.mp h
      exact pv_sub (pv_ok G a h.1) (pv_ok G b h.2)
  | .neg a, x, h => by
    unfold chPv at h; split at h <;> first | cases h; done | skip
    exact pv_neg (pv_ok G a h)
  | .mov _, _, h | .non, _, h | .bl _, _, h | .str _, _, h | .tup _, _, h | .lst _, _, h | .not _, _, h | .and _ _, _, h | .or _ _, _, h | .ife _ _ _, _, h | .cmp _ _ _, _, h | .cmpL _ _ _, _, h | .cmpR _ _ _, _, h | .chain _ _ _ _ _, _, h | .isn _ _, _, h | .isnv _ _, _, h | .isb _ _ _, _, h
  | .ix _ _, _, h | .ix2 _ _ _, _, h | .idx _ _, _, h | .sl _ _ _, _, h | .slv _ _ _, _, h | .rev _, _, h | .revv _, _, h | .call _ _, _, h | .cio _ _ _, _, h | .meth _ _ _, _, h | .new _ _, _, h | .clc _ _, _, h | .prim _ _, _, h | .primv _ _, _, h | .prim2 _ _ _, _, h | .isi _ _, _, h | .isiv _ _, _, h
  | .fld _ _, _, h | .lc _ _ _ _ _, _, h | .lc2 _ _ _ _ _ _ _ _ _, _, h | .pop _, _, h | .lam _ _, _, h | .never, _, h => by simp only [chPv] at h; cases h
theorem stars {es : Es} {xs : List Expr} (h : chEs c es xs = true) : xs.all notStar = true := chEs_star h
theorem andB {a b : Bool} (h : (a && b) = true) : a = true ∧ b = true := Bool.and_eq_true_iff.mp h
/-- the tail of a boolean chain, as a value and as a test -/
theorem tail_pe {op : BoolOp} {r : Expr} {rest : List Expr} {p : Pos} {t : TE} (h : PE X (tailB op r rest p) t) : PE X (.BoolOp op (r :: rest) p) t := by
  cases rest with
  | nil => exact pe_one h
  | cons _ _ => exact h
theorem tail_and {r : Expr} {rest : List Expr} {p : Pos} {t : TT} (h : PT X (tailB .And r rest p) t ∧ ∀ op vs q, tailB .And r rest p = .BoolOp op vs q → PW X (tailB .And r rest p) t) : PW X (.BoolOp .And (r :: rest) p) t := by
  cases rest with
  | nil => exact pw_and1 h.1
  | cons _ _ => exact h.2 _ _ _ rfl
theorem tail_or {r : Expr} {rest : List Expr} {p : Pos} {t : TT} (h : PT X (tailB .Or r rest p) t ∧ ∀ op vs q, tailB .Or r rest p = .BoolOp op vs q → PW X (tailB .Or r rest p) t) : PW X (.BoolOp .Or (r :: rest) p) t := by
  cases rest with
  | nil => exact pw_or1 h.1
  | cons _ _ => exact h.2 _ _ _ rfl
theorem starEach_len {es : List Expr} {env : PySem.Env} (h : es.all notStar = true) : (assignEach es env).length = es.length ∧ (assignEach es env).findIdx? (·.1) = none := by
  induction es with
  | nil => exact ⟨rfl, rfl⟩
  | cons a es ih =>
    rw [List.all_cons, Bool.and_eq_true] at h
    have ih := ih h.2
    have e : assignEach (a :: es) env = (false, assign a env) :: assignEach es env := by
      cases a <;> first | rfl | cases h.1
    rw [e]
    refine ⟨by rw [List.length_cons, ih.1]; rfl, ?_⟩
    rw [List.findIdx?_cons, ih.2]; rfl
theorem assign_cons {a : Expr} {es : List Expr} {env : PySem.Env} (h : notStar a = true) : (assignEach (a :: es) env).map (·.2) = assign a env :: (assignEach es env).map (·.2) := by
  cases a <;> first | rfl | cases h
theorem chGs_len : ∀ {gs : Tgs} {own : Option (List Nat)} {xs : List Expr}, chGs c own gs xs = true → gs.len = xs.length ∧ xs.all notStar = true
  | .nil, own, xs, h => by unfold chGs at h; cases xs <;> first | exact ⟨rfl, rfl⟩ | cases h
  | .cons a r, own, xs, h => by
    unfold chGs at h
    cases xs with
    | nil => cases h
    | cons y ys =>
      simp only [Bool.and_eq_true] at h
      have := chGs_len h.2
      exact ⟨by show r.len + 1 = _; rw [this.1]; rfl, by rw [List.all_cons, h.1.1, this.2]; rfl⟩
/-- which slots a target may not touch -/
def PO_ (io : Bool) : Option (List Nat) → Nat → Prop
  | none => fun i => io = true ∧ i = 0
  | some l => fun i => i ∉ l
theorem po_ok {io : Bool} {own : Option (List Nat)} {i : Nat} (h : (match own with
      | none => true
      | some l => l.contains i) = true) : (io && i == 0) = false → ¬ PO_ io own i := by
  intro h0 hp
  cases own with
  | none =>
    obtain ⟨rfl, rfl⟩ := hp
    cases h0
  | some l => exact hp (List.contains_iff_mem.mp h)
mutual
theorem e_ok : ∀ (e : E) {c : Ck} {X : Cx} {W : WX} {x : Expr}, GX Y C k c X → Takes X W → EOk Y C c X W e x
  | .var i, c, X, W, x, G, tk => ok_plain (fun t => by unfold chE; exact rfl) rfl fun h => by
    split at h <;> first | cases h; done | skip
    exact e_var (G.pe h)
  | .mov i, c, X, W, x, G, tk => ok_plain (fun t => by unfold chE; exact rfl) rfl fun h => by
    split at h <;> first | cases h; done | skip
    exact e_mov (G.pe h)
  | .non, c, X, W, x, G, tk => ok_plain (fun t => by unfold chE; exact rfl) rfl fun h => by
    split at h <;> first | cases h; done | skip
    exact e_non
  | .bl b, c, X, W, x, G, tk => ok_plain (fun t => by unfold chE; exact rfl) rfl fun h => by
    split at h <;> first | cases h; done | skip
    have h := eq_of_beq h
    subst h
    exact e_bl
  | .int i, c, X, W, x, G, tk => ok_plain (fun t => by unfold chE; exact rfl) rfl fun h => by
    split at h <;> first | cases h; done | skip
    have h := of_decide_eq_true h
    subst h
    exact e_int
  | .str s, c, X, W, x, G, tk => ok_plain (fun t => by unfold chE; exact rfl) rfl fun h => by
    split at h <;> first | cases h; done | skip
    have h := of_decide_eq_true h
    subst h
    exact e_str
  | .tup es, c, X, W, x, G, tk => ok_plain (fun t => by unfold chE; exact rfl) rfl fun h => by
    split at h <;> first | cases h; done | skip
    obtain ⟨h1, h2⟩ := andB h
    have h2 := of_decide_eq_true h2
    exact e_tup (es_ok es G tk h1) fun e ts e' q => by rw [evs_len q, chEs_len h1]; exact h2
  | .lst es, c, X, W, x, G, tk => ok_plain (fun t => by unfold chE; exact rfl) rfl fun h => by
    split at h <;> first | cases h; done | skip
    obtain ⟨h1, h2⟩ := andB h
    have h2 := of_decide_eq_true h2
    exact e_lst (es_ok es G tk h1) fun e ts e' q => by rw [evs_len q, chEs_len h1]; exact h2
  | .bin o a b, c, X, W, x, G, tk => ok_plain (fun t => by unfold chE; exact rfl) rfl fun h => by
    split at h <;> first | cases h; done | skip
    obtain ⟨h, h3⟩ := andB h
    obtain ⟨h1, h2⟩ := andB h
    have R := brule Y X o (of_decide_eq_true h1)
    exact e_bin R.ok R.by_ ((e_ok a G tk).v h2) ((e_ok b G tk).v h3)
  | .neg a, c, X, W, x, G, tk => ok_plain (fun t => by unfold chE; exact rfl) rfl fun h => by
    split at h <;> first | cases h; done | skip
    exact e_neg ((e_ok a G tk).v h)
  | .not a, c, X, W, x, G, tk => by
    refine ⟨fun h => ?_, fun h => ?_, fun h => by cases h⟩
    · unfold chE at h; split at h <;> first | cases h; done | skip
      exact e_not ((e_ok a G tk).v h)
    · unfold chE at h; split at h <;> first | cases h; done | skip
      exact ⟨t_not ((e_ok a G tk).t h).1, fun op vs p e2 => by cases e2⟩
  | .and a b, c, X, W, x, G, tk => by
    refine ⟨fun h => ?_, fun h => ?_, fun h => by cases h⟩
    · unfold chE at h; split at h <;> first | cases h; done | skip
      obtain ⟨h1, h2⟩ := andB h
      exact e_and ((e_ok a G tk).v h1) (tail_pe ((e_ok b G tk).v h2))
    · unfold chE at h; split at h <;> first | cases h; done | skip
      obtain ⟨h1, h2⟩ := andB h
      have w := w_and ((e_ok a G tk).t h1).1 (tail_and ((e_ok b G tk).t h2))
      exact ⟨w.pt, fun op vs p e2 => w⟩
  | .or a b, c, X, W, x, G, tk => by
    refine ⟨fun h => ?_, fun h => ?_, fun h => by cases h⟩
    · unfold chE at h; split at h <;> first | cases h; done | skip
      obtain ⟨h1, h2⟩ := andB h
      exact e_or ((e_ok a G tk).v h1) (tail_pe ((e_ok b G tk).v h2))
    · unfold chE at h; split at h <;> first | cases h; done | skip
      obtain ⟨h1, h2⟩ := andB h
      have w := w_or ((e_ok a G tk).t h1).1 (tail_or ((e_ok b G tk).t h2))
      exact ⟨w.pt, fun op vs p e2 => w⟩
  | .ife d a b, c, X, W, x, G, tk => by
    refine ⟨fun h => ?_, fun h => ?_, fun h => by cases h⟩
    · unfold chE at h
      obtain ⟨_, h⟩ := andB h
      split at h <;> first | cases h; done | skip
      obtain ⟨h, h3⟩ := andB h
      obtain ⟨h1, h2⟩ := andB h
      exact e_ife ((e_ok d G tk).t h1).1 ((e_ok a G tk).v h2) ((e_ok b G tk).v h3)
    · unfold chE at h
      cases (andB h).1
  | .cmp o a b, c, X, W, x, G, tk => ok_test (fun t => by unfold chE; exact rfl) rfl fun h => by
    split at h <;> first | cases h; done | skip
    obtain ⟨h, h4⟩ := andB h
    obtain ⟨h, h3⟩ := andB h
    obtain ⟨h1, h2⟩ := andB h
    have h1 := of_decide_eq_true h1
    have h2 := (Bool.not_eq_true' _).mp h2
    subst h1
    have R := crule Y X G.u65 o
    exact ⟨e_cmp R h2 ((e_ok a G tk).v h3) ((e_ok b G tk).v h4), t_cmp R h2 ((e_ok a G tk).v h3) ((e_ok b G tk).v h4), _, _, _, _, rfl⟩
  | .cmpL o i b, c, X, W, x, G, tk => ok_test (fun t => by unfold chE; exact rfl) rfl fun h => by
    split at h <;> first | cases h; done | skip
    obtain ⟨h, h4⟩ := andB h
    obtain ⟨h, h3⟩ := andB h
    obtain ⟨h1, h2⟩ := andB h
    have h1 := of_decide_eq_true h1
    have h2 := (Bool.not_eq_true' _).mp h2
    subst h1
    have R := crule Y X G.u65 o
    exact ⟨e_cmpL R h2 (G.pe h3) ((e_ok b G tk).v h4), t_cmpL R h2 (G.pe h3) ((e_ok b G tk).v h4), _, _, _, _, rfl⟩
  | .cmpR o a i, c, X, W, x, G, tk => ok_test (fun t => by unfold chE; exact rfl) rfl fun h => by
    split at h <;> first | cases h; done | skip
    obtain ⟨h, h4⟩ := andB h
    obtain ⟨h, h3⟩ := andB h
    obtain ⟨h1, h2⟩ := andB h
    have h1 := of_decide_eq_true h1
    have h2 := (Bool.not_eq_true' _).mp h2
    subst h1
    have R := crule Y X G.u65 o
    exact ⟨e_cmpR R h2 ((e_ok a G tk).v h3) (G.pe h4), t_cmpR R h2 ((e_ok a G tk).v h3) (G.pe h4), _, _, _, _, rfl⟩
  | .chain o p a b d, c, X, W, x, G, tk => ok_test (fun t => by unfold chE; exact rfl) rfl fun h => by
    split at h <;> first | cases h; done | skip
    obtain ⟨h, h6⟩ := andB h
    obtain ⟨h, h5⟩ := andB h
    obtain ⟨h, h4⟩ := andB h
    obtain ⟨h, h3⟩ := andB h
    obtain ⟨h1, h2⟩ := andB h
    have h1 := of_decide_eq_true h1
    have h2 := of_decide_eq_true h2
    have h3 := (Bool.not_eq_true' _).mp h3
    subst h1 h2
    have R := crule Y X G.u65 o
    have R' := crule Y X G.u65 p
    exact ⟨e_chain R R' h3 ((e_ok a G tk).v h4) ((e_ok b G tk).v h5) ((e_ok d G tk).v h6), t_chain R R' h3 ((e_ok a G tk).v h4) ((e_ok b G tk).v h5) ((e_ok d G tk).v h6), _, _, _, _, rfl⟩
  | .isn ng a, c, X, W, x, G, tk => ok_test (fun t => by unfold chE; exact rfl) rfl fun h => by
    split at h <;> first | cases h; done | skip
    obtain ⟨h1, h2⟩ := andB h
    have h1 := of_decide_eq_true h1
    subst h1
    exact ⟨e_isn ((e_ok a G tk).v h2), t_isn ((e_ok a G tk).v h2), _, _, _, _, rfl⟩
  | .isnv ng i, c, X, W, x, G, tk => ok_test (fun t => by unfold chE; exact rfl) rfl fun h => by
    split at h <;> first | cases h; done | skip
    obtain ⟨h1, h2⟩ := andB h
    have h1 := of_decide_eq_true h1
    subst h1
    exact ⟨e_isnv (G.pe h2), t_isnv (G.pe h2), _, _, _, _, rfl⟩
  | .isb ng a d, c, X, W, x, G, tk => ok_test (fun t => by unfold chE; exact rfl) rfl fun h => by
    split at h <;> first | cases h; done | skip
    obtain ⟨h, h3⟩ := andB h
    obtain ⟨h1, h2⟩ := andB h
    have h1 := of_decide_eq_true h1
    have h2 := eq_of_beq h2
    subst h1 h2
    exact ⟨e_isb ((e_ok a G tk).v h3), t_isb ((e_ok a G tk).v h3), _, _, _, _, rfl⟩
  | .ix i b, c, X, W, x, G, tk => ok_plain (fun t => by unfold chE; exact rfl) rfl fun h => by
    split at h <;> first | cases h; done | skip
    obtain ⟨h, h3⟩ := andB h
    obtain ⟨h1, h2⟩ := andB h
    exact e_ix (plainIx_of h2) (G.pe h1) ((e_ok b G tk).v h3)
  | .ix2 i b j, c, X, W, x, G, tk => ok_plain (fun t => by unfold chE; exact rfl) rfl fun h => by
    split at h <;> first | cases h; done | skip
    obtain ⟨h, h5⟩ := andB h
    obtain ⟨h, h4⟩ := andB h
    obtain ⟨h, h3⟩ := andB h
    obtain ⟨h1, h2⟩ := andB h
    exact e_ix2 (plainIx_of h2) (plainIx_of h3) (G.pe h1) ((e_ok b G tk).v h4) (pv_ok G j h5)
  | .idx a b, c, X, W, x, G, tk => ok_plain (fun t => by unfold chE; exact rfl) rfl fun h => by
    split at h <;> first | cases h; done | skip
    obtain ⟨h, h3⟩ := andB h
    obtain ⟨h1, h2⟩ := andB h
    exact e_idx (plainIx_of h1) ((e_ok a G tk).v h2) ((e_ok b G tk).v h3)
  | .sl a lo hi, c, X, W, x, G, tk => ok_plain (fun t => by unfold chE; exact rfl) rfl fun h => by
    split at h <;> first | cases h; done | skip
    obtain ⟨h, h3⟩ := andB h
    obtain ⟨h1, h2⟩ := andB h
    exact e_sl ((e_ok a G tk).v h1) (o_ok lo G tk h2) (o_ok hi G tk h3)
  | .slv i lo hi, c, X, W, x, G, tk => ok_plain (fun t => by unfold chE; exact rfl) rfl fun h => by
    split at h <;> first | cases h; done | skip
    obtain ⟨h, h3⟩ := andB h
    obtain ⟨h1, h2⟩ := andB h
    exact e_slv (G.pe h1) (o_ok lo G tk h2) (o_ok hi G tk h3)
  | .rev a, c, X, W, x, G, tk => ok_plain (fun t => by unfold chE; exact rfl) rfl fun h => by
    split at h <;> first | cases h; done | skip
    exact e_rev ((e_ok a G tk).v h)
  | .revv i, c, X, W, x, G, tk => ok_plain (fun t => by unfold chE; exact rfl) rfl fun h => by
    split at h <;> first | cases h; done | skip
    exact e_revv (G.pe h)
  | .call f as, c, X, W, x, G, tk => ok_plain (fun t => by unfold chE; exact rfl) rfl fun h => by
    split at h <;> first | cases h; done | skip
    obtain ⟨h, h3⟩ := andB h
    obtain ⟨h1, h2⟩ := andB h
    obtain ⟨F, g1, g2⟩ := chCall_of G h1
    exact e_call F G.room g1 tk g2 h2 (es_ok as G tk h3) fun e ts e' q => evs_len q
  | .cio f i as, c, X, W, x, G, tk => ok_plain (fun t => by unfold chE; exact rfl) rfl fun h => by
    split at h <;> first | cases h; done | skip
    obtain ⟨h, h4⟩ := andB h
    obtain ⟨h, h3⟩ := andB h
    obtain ⟨h1, h2⟩ := andB h
    obtain ⟨F, g1, g2⟩ := chCall_of G h1
    exact e_cio F G.room g1 tk g2 h2 (G.pe h3) (es_ok as G tk h4) fun e ts e' q => evs_len q
  | .prim q a, c, X, W, x, G, tk => ok_plain (fun t => by unfold chE; exact rfl) rfl fun h => by
    split at h <;> first | cases h; done | skip
    split at h <;> first | cases h; done | skip
    rename_i m f hq
    obtain ⟨h, h4⟩ := andB h
    obtain ⟨h, h3⟩ := andB h
    obtain ⟨h1, h2⟩ := andB h
    have h1 := of_decide_eq_true h1
    subst h1
    exact e_prim hq G.calm G.K (G.bu h2).1 (G.bu h2).2 ((e_ok a G tk).v h4) h3
  | .primv q i, c, X, W, x, G, tk => ok_plain (fun t => by unfold chE; exact rfl) rfl fun h => by
    split at h <;> first | cases h; done | skip
    split at h <;> first | cases h; done | skip
    rename_i m f hq
    obtain ⟨h, h3⟩ := andB h
    obtain ⟨h1, h2⟩ := andB h
    have h1 := of_decide_eq_true h1
    subst h1
    exact e_primv hq G.calm G.K (G.bu h2).1 (G.bu h2).2 (G.pe h3) rfl
  | .prim2 q a b, c, X, W, x, G, tk => ok_plain (fun t => by unfold chE; exact rfl) rfl fun h => by
    split at h <;> first | cases h; done | skip
    split at h <;> first | cases h; done | skip
    rename_i m f hq
    obtain ⟨h, h6⟩ := andB h
    obtain ⟨h, h5⟩ := andB h
    obtain ⟨h, h4⟩ := andB h
    obtain ⟨h, h3⟩ := andB h
    obtain ⟨h1, h2⟩ := andB h
    have h1 := of_decide_eq_true h1
    subst h1
    exact e_prim2 hq G.calm (G.bu h2).1 (G.bu h2).2 ((e_ok a G tk).v h5) ((e_ok b G tk).v h6) h3 h4
  | .isi a kk, c, X, W, x, G, tk => ok_plain (fun t => by unfold chE; exact rfl) rfl fun h => by
    split at h <;> first | cases h; done | skip
    split at h <;> first | cases h; done | skip
    rename_i m hq
    obtain ⟨h, h6⟩ := andB h
    obtain ⟨h, h5⟩ := andB h
    obtain ⟨h, h4⟩ := andB h
    obtain ⟨h, h3⟩ := andB h
    obtain ⟨h1, h2⟩ := andB h
    have h1 := of_decide_eq_true h1
    have h2 := of_decide_eq_true h2
    subst h1
    exact e_isi hq h2 (G.bu h3).1 (G.bu h3).2 (G.bu h4).1 (G.bu h4).2 ((e_ok a G tk).v h6) h5
  | .isiv i kk, c, X, W, x, G, tk => ok_plain (fun t => by unfold chE; exact rfl) rfl fun h => by
    split at h <;> first | cases h; done | skip
    split at h <;> first | cases h; done | skip
    rename_i m hq
    obtain ⟨h, h5⟩ := andB h
    obtain ⟨h, h4⟩ := andB h
    obtain ⟨h, h3⟩ := andB h
    obtain ⟨h1, h2⟩ := andB h
    have h1 := of_decide_eq_true h1
    have h2 := of_decide_eq_true h2
    subst h1
    exact e_isiv hq h2 (G.bu h3).1 (G.bu h3).2 (G.bu h4).1 (G.bu h4).2 (G.pe h5) rfl
  | .never, c, X, W, x, G, tk => ⟨fun _ => e_never, fun _ => ⟨t_never, fun _ _ _ _ => ⟨fun _ _ _ _ _ _ _ ⟨e, Z, O, he, g, hd⟩ => hd.elim⟩⟩, fun h => by cases h⟩
  | .lc own tg s d e, c, X, W, x, G, tk => by
    have key : ∀ {y u v : Expr} {ifs : List Expr} {sc : Scope}, (decide own.Nodup && blkC c.N c.sc sc (namesOf c own) && decide (sc.kind = .function) && notSet v && chS c s u v && chG (c.blk sc) (some own) tg u && chC (c.blk sc) d ifs && chE (c.blk sc) false e y) = true →
        own.Nodup ∧ BlkOk X.N X.env.scope sc (namesOf c own) ∧ (∀ z, foldedSetIterable v X.env z = pure z) ∧ PI X u v (EI Y W (srs C s)) ∧
        (∀ (s' : Shared) (H : Hp) (D : Addr) (cl : List (Str × Addr)) (fp : List Addr), PG (X.blk s' H sc (compEnvC sc cl D X.env) fp) u (tT Y Wf (fun i => i ∉ own) (asgTg C tg))) ∧
        (∀ (s' : Shared) (H : Hp) (D : Addr) (cl : List (Str × Addr)) (fp : List Addr), PTs (X.blk s' H sc (compEnvC sc cl D X.env) fp) ifs (EB Y Wf (cnd C d))) ∧
        (∀ (s' : Shared) (H : Hp) (D : Addr) (cl : List (Str × Addr)) (fp : List Addr), PE (X.blk s' H sc (compEnvC sc cl D X.env) fp) y (ET Y Wf (ev C e))) := by
      intro y u v ifs sc h
      obtain ⟨h, h8⟩ := andB h
      obtain ⟨h, h7⟩ := andB h
      obtain ⟨h, h6⟩ := andB h
      obtain ⟨h, h5⟩ := andB h
      obtain ⟨h, h4⟩ := andB h
      obtain ⟨h, h3⟩ := andB h
      obtain ⟨h1, h2⟩ := andB h
      have h3 := of_decide_eq_true h3
      refine ⟨of_decide_eq_true h1, by rw [G.N, G.sc]; exact blkOk_by h2, notSet_of h4 _, s_ok s G tk h5, fun s' H D cl fp => ?_, fun s' H D cl fp => ?_, fun s' H D cl fp => ?_⟩
      · exact g_ok tg (own := some own) (G.blk h3 s' H D cl fp) takesF h6
      · exact c_ok d (G.blk h3 s' H D cl fp) takesF h7
      · exact (e_ok e (G.blk h3 s' H D cl fp) takesF).v h8
    have pe : ∀ {y u v : Expr} {ifs : List Expr} {sc : Scope} {p : Pos}, (decide own.Nodup && blkC c.N c.sc sc (namesOf c own) && decide (sc.kind = .function) && notSet v && chS c s u v && chG (c.blk sc) (some own) tg u && chC (c.blk sc) d ifs && chE (c.blk sc) false e y) = true → PE X (.ListComp y [⟨u, v, ifs, 0⟩] sc p) (ET Y W (ev C (.lc own tg s d e))) := by
      intro y u v ifs sc p h
      obtain ⟨k1, k2, k3, k4, k5, k6, k7⟩ := key h
      have := e_lc (ow := namesOf c own) (pos := p) (by rw [namesOf_ix]; exact k1) G.calm G.Nd k4 k2 (by rw [namesOf_ix]; exact k5) k6 k7 k3
      rw [namesOf_ix] at this
      exact this
    refine ⟨fun h => ?_, fun h => ?_, fun _ h i n p pos hsw hi hl => ?_⟩
    · unfold chE at h
      obtain ⟨_, h⟩ := andB h
      split at h <;> first | cases h; done | skip
      exact pe h
    · unfold chE at h
      obtain ⟨h0, h⟩ := andB h
      split at h <;> first | cases h; done | skip
      exact ⟨t_val (pe h) (plainT_of h0), fun op vs p e2 => by cases e2⟩
    · unfold chE at h
      obtain ⟨_, h⟩ := andB h
      split at h <;> first | cases h; done | skip
      obtain ⟨k1, k2, k3, k4, k5, k6, k7⟩ := key h
      refine PS.imp (ps_setLc (own := namesOf c own) G.calm G.Nd hi hl hsw k4 k2 k5 k6 k7 k3) fun D σ H hw => ?_
      rw [namesOf_ix]
      exact lc_tr k1 hw
  | .lc2 own tg s d own2 tg2 s2 d2 e, c, X, W, x, G, tk => by
    have key : ∀ {y u v u2 v2 : Expr} {ifs ifs2 : List Expr} {sc : Scope}, (decide own.Nodup && blkC c.N c.sc sc (namesOf c own) && decide (sc.kind = .function) && own2.all (fun i => own.contains i) && notSet v && notSet v2 && chS c s u v && chG (c.blk sc) (some own) tg u && chC (c.blk sc) d ifs &&
        chS (c.blk sc) s2 u2 v2 && chG (c.blk sc) (some own2) tg2 u2 && chC (c.blk sc) d2 ifs2 && chE (c.blk sc) false e y) = true →
        own.Nodup ∧ BlkOk X.N X.env.scope sc (namesOf c own) ∧ (∀ i ∈ own2, i ∈ own) ∧ (∀ z, foldedSetIterable v X.env z = pure z) ∧ (∀ env z, foldedSetIterable v2 env z = pure z) ∧ PI X u v (EI Y W (srs C s)) ∧
        (∀ (s' : Shared) (H : Hp) (D : Addr) (cl : List (Str × Addr)) (fp : List Addr), PG (X.blk s' H sc (compEnvC sc cl D X.env) fp) u (tT Y Wf (fun i => i ∉ own) (asgTg C tg))) ∧
        (∀ (s' : Shared) (H : Hp) (D : Addr) (cl : List (Str × Addr)) (fp : List Addr), PTs (X.blk s' H sc (compEnvC sc cl D X.env) fp) ifs (EB Y Wf (cnd C d))) ∧
        (∀ (s' : Shared) (H : Hp) (D : Addr) (cl : List (Str × Addr)) (fp : List Addr), PI (X.blk s' H sc (compEnvC sc cl D X.env) fp) u2 v2 (EI Y Wf (srs C s2))) ∧
        (∀ (s' : Shared) (H : Hp) (D : Addr) (cl : List (Str × Addr)) (fp : List Addr), PG (X.blk s' H sc (compEnvC sc cl D X.env) fp) u2 (tT Y Wf (fun i => i ∉ own2) (asgTg C tg2))) ∧
        (∀ (s' : Shared) (H : Hp) (D : Addr) (cl : List (Str × Addr)) (fp : List Addr), PTs (X.blk s' H sc (compEnvC sc cl D X.env) fp) ifs2 (EB Y Wf (cnd C d2))) ∧
        (∀ (s' : Shared) (H : Hp) (D : Addr) (cl : List (Str × Addr)) (fp : List Addr), PE (X.blk s' H sc (compEnvC sc cl D X.env) fp) y (ET Y Wf (ev C e))) := by
      intro y u v u2 v2 ifs ifs2 sc h
      obtain ⟨h, h13⟩ := andB h
      obtain ⟨h, h12⟩ := andB h
      obtain ⟨h, h11⟩ := andB h
      obtain ⟨h, h10⟩ := andB h
      obtain ⟨h, h9⟩ := andB h
      obtain ⟨h, h8⟩ := andB h
      obtain ⟨h, h7⟩ := andB h
      obtain ⟨h, h6⟩ := andB h
      obtain ⟨h, h5⟩ := andB h
      obtain ⟨h, h4⟩ := andB h
      obtain ⟨h, h3⟩ := andB h
      obtain ⟨h1, h2⟩ := andB h
      have h3 := of_decide_eq_true h3
      refine ⟨of_decide_eq_true h1, by rw [G.N, G.sc]; exact blkOk_by h2, fun i hi => List.contains_iff_mem.mp (List.all_eq_true.mp h4 i hi), notSet_of h5 _, fun env => notSet_of h6 env, s_ok s G tk h7, fun s' H D cl fp => ?_, fun s' H D cl fp => ?_, fun s' H D cl fp => ?_, fun s' H D cl fp => ?_, fun s' H D cl fp => ?_, fun s' H D cl fp => ?_⟩
      · exact g_ok tg (own := some own) (G.blk h3 s' H D cl fp) takesF h8
      · exact c_ok d (G.blk h3 s' H D cl fp) takesF h9
      · exact s_ok s2 (G.blk h3 s' H D cl fp) takesF h10
      · exact g_ok tg2 (own := some own2) (G.blk h3 s' H D cl fp) takesF h11
      · exact c_ok d2 (G.blk h3 s' H D cl fp) takesF h12
      · exact (e_ok e (G.blk h3 s' H D cl fp) takesF).v h13
    have pe : ∀ {y u v u2 v2 : Expr} {ifs ifs2 : List Expr} {sc : Scope} {p : Pos}, (decide own.Nodup && blkC c.N c.sc sc (namesOf c own) && decide (sc.kind = .function) && own2.all (fun i => own.contains i) && notSet v && notSet v2 && chS c s u v && chG (c.blk sc) (some own) tg u && chC (c.blk sc) d ifs &&
        chS (c.blk sc) s2 u2 v2 && chG (c.blk sc) (some own2) tg2 u2 && chC (c.blk sc) d2 ifs2 && chE (c.blk sc) false e y) = true → PE X (.ListComp y [⟨u, v, ifs, 0⟩, ⟨u2, v2, ifs2, 0⟩] sc p) (ET Y W (ev C (.lc2 own tg s d own2 tg2 s2 d2 e))) := by
      intro y u v u2 v2 ifs ifs2 sc p h
      obtain ⟨k1, k2, k3, k4, k5, k6, k7, k8, k9, k10, k11, k12⟩ := key h
      have := e_lc2 (ow := namesOf c own) (own2 := own2) (pos := p) (by rw [namesOf_ix]; exact k1) G.calm G.Nd k6 k2 (by rw [namesOf_ix]; exact k3) (by rw [namesOf_ix]; exact k7) k8 k9 k10 k11 k12 k4 k5
      rw [namesOf_ix] at this
      exact this
    refine ⟨fun h => ?_, fun h => ?_, fun _ h i n p pos hsw hi hl => ?_⟩
    · unfold chE at h
      obtain ⟨_, h⟩ := andB h
      split at h <;> first | cases h; done | skip
      exact pe h
    · unfold chE at h
      obtain ⟨h0, h⟩ := andB h
      split at h <;> first | cases h; done | skip
      exact ⟨t_val (pe h) (plainT_of h0), fun op vs p e2 => by cases e2⟩
    · unfold chE at h
      obtain ⟨_, h⟩ := andB h
      split at h <;> first | cases h; done | skip
      obtain ⟨k1, k2, k3, k4, k5, k6, k7, k8, k9, k10, k11, k12⟩ := key h
      refine PS.imp (ps_setLc2 (own := namesOf c own) G.calm G.Nd hi hl hsw k6 k2 (by rw [namesOf_ix]; exact k3) k7 k8 k9 k10 k11 k12 k4 k5) fun D σ H hw => ?_
      rw [namesOf_ix]
      exact lc2_tr k1 k3 hw
  | .meth _ _ _, c, X, W, x, G, tk | .new _ _, c, X, W, x, G, tk | .clc _ _, c, X, W, x, G, tk | .fld _ _, c, X, W, x, G, tk | .pop _, c, X, W, x, G, tk | .lam _ _, c, X, W, x, G, tk =>
    ⟨fun h => (by unfold chE at h; cases h), fun h => (by unfold chE at h; cases h), fun h => (by cases h)⟩
theorem o_ok : ∀ (e : Eo) {c : Ck} {X : Cx} {W : WX} {x : Option Expr}, GX Y C k c X → Takes X W → chO c e x = true → PO X x (EO Y W (evo C e))
  | .non, c, X, W, x, G, tk, h => by
    unfold chO at h
    cases x with
    | none => exact o_none
    | some _ => cases h
  | .som a, c, X, W, x, G, tk, h => by
    unfold chO at h
    cases x with
    | none => cases h
    | some y => exact o_some ((e_ok a G tk).v h)
theorem c_ok : ∀ (e : Eo) {c : Ck} {X : Cx} {W : WX} {xs : List Expr}, GX Y C k c X → Takes X W → chC c e xs = true → PTs X xs (EB Y W (cnd C e))
  | .non, c, X, W, xs, G, tk, h => by
    unfold chC at h
    cases xs with
    | nil => exact ⟨fun pins s σ H Q I ⟨e, Z, O, he, g, hd⟩ => pts_nil.run pins s σ H Q I (hd true H Z [] O he ⟨rfl, rfl⟩ (Step.refl g))⟩
    | cons _ _ => cases h
  | .som a, c, X, W, xs, G, tk, h => by
    unfold chC at h
    split at h <;> first | cases h; done | skip
    exact pts_one ((e_ok a G tk).t h).1
theorem s_ok : ∀ (s : Sr) {c : Ck} {X : Cx} {W : WX} {tg x : Expr}, GX Y C k c X → Takes X W → chS c s tg x = true → PI X tg x (EI Y W (srs C s))
  | .seq a, c, X, W, tg, x, G, tk, h => by
    unfold chS at h
    obtain ⟨_, h⟩ := andB h
    exact i_seq ((e_ok a G tk).v h)
  | .rg1 a, c, X, W, tg, x, G, tk, h => by
    unfold chS at h
    split at h <;> first | cases h; done | skip
    obtain ⟨h, h4⟩ := andB h
    obtain ⟨h, h3⟩ := andB h
    obtain ⟨h1, h2⟩ := andB h
    have h1 := of_decide_eq_true h1
    subst h1
    exact i_rg1 (G.bu h2).1 (G.bu h2).2 ((e_ok a G tk).v h4) h3
  | .rg2 a b, c, X, W, tg, x, G, tk, h => by
    unfold chS at h
    split at h <;> first | cases h; done | skip
    obtain ⟨h, h6⟩ := andB h
    obtain ⟨h, h5⟩ := andB h
    obtain ⟨h, h4⟩ := andB h
    obtain ⟨h, h3⟩ := andB h
    obtain ⟨h1, h2⟩ := andB h
    have h1 := of_decide_eq_true h1
    subst h1
    exact i_rg2 (G.bu h2).1 (G.bu h2).2 ((e_ok a G tk).v h5) ((e_ok b G tk).v h6) h3 h4
  | .zip a b, c, X, W, tg, x, G, tk, h => by
    unfold chS at h
    split at h <;> first | cases h; done | skip
    obtain ⟨h, h6⟩ := andB h
    obtain ⟨h, h5⟩ := andB h
    obtain ⟨h, h4⟩ := andB h
    obtain ⟨h, h3⟩ := andB h
    obtain ⟨h1, h2⟩ := andB h
    have h1 := of_decide_eq_true h1
    subst h1
    exact i_zip (G.bu h2).1 (G.bu h2).2 ((e_ok a G tk).v h5) ((e_ok b G tk).v h6) h3 h4
theorem g_ok : ∀ (g : Tg) {c : Ck} {X : Cx} {W : WX} {own : Option (List Nat)} {x : Expr}, GX Y C k c X → Takes X W → chG c own g x = true → PG X x (tT Y W (PO_ C.io own) (asgTg C g))
  | .nm i, c, X, W, own, x, G, tk, h => by
    unfold chG at h
    split at h <;> first | cases h; done | skip
    obtain ⟨h1, h2⟩ := andB h
    obtain ⟨a1, a2, a3⟩ := G.st h1
    exact g_name G.Nd a1 a2 a3 (po_ok h2)
  | .ix i b, c, X, W, own, x, G, tk, h => by
    unfold chG at h
    split at h <;> first | cases h; done | skip
    obtain ⟨h, h3⟩ := andB h
    obtain ⟨h1, h2⟩ := andB h
    exact g_ix (G.pe h1) ((e_ok b G tk).v h3) (assign_sub h2)
  | .ix2 i b j, c, X, W, own, x, G, tk, h => by
    unfold chG at h
    split at h <;> first | cases h; done | skip
    obtain ⟨h, h5⟩ := andB h
    obtain ⟨h, h4⟩ := andB h
    obtain ⟨h, h3⟩ := andB h
    obtain ⟨h1, h2⟩ := andB h
    exact g_ix2 (plainIx_of h2) (G.pe h1) ((e_ok b G tk).v h4) (pv_ok G j h5) (assign_sub h3)
  | .tp ts, c, X, W, own, x, G, tk, h => by
    unfold chG at h
    split at h <;> first | cases h; done | skip
    obtain ⟨l1, l2⟩ := chGs_len h
    exact g_tp G.calm (gs_ok ts G tk h) (starEach_len l2).1 (starEach_len l2).2 l1
theorem gs_ok : ∀ (gs : Tgs) {c : Ck} {X : Cx} {W : WX} {own : Option (List Nat)} {xs : List Expr}, GX Y C k c X → Takes X W → chGs c own gs xs = true → PGs X xs (tTs Y W (PO_ C.io own) (asgTgs C gs))
  | .nil, c, X, W, own, xs, G, tk, h => by
    unfold chGs at h
    cases xs with
    | nil =>
      have := gs_nil (Y := Y) (W := W) (P := PO_ C.io own) (X := X)
      refine ⟨fun pins s σ H vs us Q I r ⟨ts, e, Z, O, U, he, rr, g, hd⟩ => this.run pins s σ H vs us Q I r ⟨ts, e, Z, O, U, he, rr, g, ?_⟩⟩
      cases ts with
      | nil => exact hd
      | cons _ _ => exact hd
    | cons _ _ => cases h
  | .cons a r, c, X, W, own, xs, G, tk, h => by
    unfold chGs at h
    cases xs with
    | nil => cases h
    | cons y ys =>
      simp only [Bool.and_eq_true] at h
      have := gs_cons (g_ok a G tk h.1.2) (gs_ok r G tk h.2) (assign_cons h.1.1)
      refine ⟨fun pins s σ H vs us Q I r ⟨ts, e, Z, O, U, he, rr, g, hd⟩ => this.run pins s σ H vs us Q I r ⟨ts, e, Z, O, U, he, rr, g, ?_⟩⟩
      cases ts with
      | nil => exact hd
      | cons _ _ => exact hd
theorem es_ok : ∀ (es : Es) {c : Ck} {X : Cx} {W : WX} {xs : List Expr}, GX Y C k c X → Takes X W → chEs c es xs = true → PA X xs (ETs Y W (evs C es))
  | .nil, c, X, W, xs, G, tk, h => by
    unfold chEs at h
    cases xs with
    | nil => exact a_nil
    | cons _ _ => cases h
  | .cons a r, c, X, W, xs, G, tk, h => by
    unfold chEs at h
    cases xs with
    | nil => cases h
    | cons y ys =>
      simp only [Bool.and_eq_true] at h
      exact a_cons ((e_ok a G tk).v h.1.2) (es_ok r G tk h.2) (star_cons h.1.1)
end
end
end Iv
set_option Elab.async false
set_option linter.all false
set_option maxRecDepth 100000
namespace Iv
open PySem PySem.Spec PyProof.Rows L2
section
variable {Y : Par} {C : Cn} {k : Nat}
theorem set_tr {W : WX} {P : Nat → Prop} {i : Nat} {fa : Env → Iv.R T} {σ : L2.St} {H : Hp} {D : Ends} {io : Bool} (hP : (io && i == 0) = false → ¬ P i) (h : tS Y W P (fun e => (fa e).bind fun x e => (setNm io i x e).bind fun _ e => .ok .nx e) D σ H) : tAsg (ET Y W fa) (gName i) D σ H := by
  obtain ⟨e, Z, O, he, g, hd⟩ := h
  refine onT (R1 := RT Y) (Step.refl g) he Fix.refl hd fun t e1 v H1 Z1 U1 O1 he1 r s s' k hd => ?_
  rw [den_bind] at hd
  obtain ⟨h1, h2, hd⟩ := setNm_ok hd
  obtain ⟨O', he', s4⟩ := put_ he1 h2 r s
  exact hd _ H1 Z1 O' he' (Fix.set (hP h1)) s4
theorem po_none' {io : Bool} {i : Nat} : (io && i == 0) = false → ¬ PO_ io none i := po_ok (own := none) rfl
mutual
theorem st_ok : ∀ (s : S) {c : Ck} {X : Cx} {W : WX} {x : Stmt}, GX Y C k c X → Takes X W → PassesOwn (model X.prog X.w) X.A X.env X.xe → chSt c s x = true → PS X x (tS Y W (PO_ C.io none) (ex C s))
  | .asg g e, c, X, W, x, G, tk, hp, h => by
    unfold chSt at h
    split at h <;> first | cases h; done | skip
    rename_i u v p
    have gen : (notComp v && swN c.sc u v && notStar u && chG c none g u && chE c false e v) = true → PS X (.Assign [u] v p) (tS Y W (PO_ C.io none) (ex C (.asg g e))) := by
      intro h
      obtain ⟨h, h5⟩ := andB h
      obtain ⟨h, h4⟩ := andB h
      obtain ⟨h, h3⟩ := andB h
      obtain ⟨h1, h2⟩ := andB h
      exact s_asg ((e_ok e G tk).v h5) (g_ok g G tk h4) (notComp_of h1) (swN_of G.sc h2) (assign_cons h3)
    split at h
    · rename_i i n q
      obtain ⟨h, h3⟩ := andB h
      obtain ⟨h1, h2⟩ := andB h
      rcases Bool.or_eq_true_iff.mp h2 with h2 | h2
      · obtain ⟨h4, h5⟩ := andB h2
        obtain ⟨a1, a2, a3⟩ := G.st h5
        have hsw : swapsWith v (some (.Name n q)) p.line X.env = pure false := (Bool.or_eq_true_iff.mp h4).elim notComp_of (swF_of G.sc)
        exact s_asg ((e_ok e G tk).v h3) (g_name G.Nd a1 a2 a3 po_none') hsw (by cases v <;> rfl) rfl
      · obtain ⟨h2, he⟩ := andB h2
        cases v <;> simp only [swT] at h2 <;> first | cases h2; done | skip
        rename_i y gens sc pp
        obtain ⟨h2, h6⟩ := andB h2
        obtain ⟨h4, h5⟩ := andB h2
        have h4 := of_decide_eq_true h4
        have h1 := of_decide_eq_true h1
        have h6 := (Bool.not_eq_true' _).mp h6
        have hl : X.env.scope.names.lookup n = some .local := by rw [G.sc]; exact h4
        have hi : X.N[i]? = some n := by rw [G.N]; exact h1
        have hk : X.env.scope.kind = .function := by rw [G.sc]; exact G.kd
        refine PS.imp ((e_ok e G tk).s he h3 i n q p (sw_true hk hl h5 h6) hi hl) fun D σ H hw => ?_
        exact set_tr po_none' hw
    · exact gen h
  | .par is es, c, X, W, x, G, tk, hp, h => by
    unfold chSt at h
    split at h <;> first | cases h; done | skip
    rename_i ts kt pt vs k2 p2 p
    obtain ⟨h1, h2⟩ := andB h
    unfold parC at h1
    split at h1 <;> first | cases h1; done | skip
    · split at h1 <;> first | cases h1; done | skip
      rename_i i j _ _ x px y py a b
      simp only [Bool.and_eq_true, decide_eq_true_eq, Bool.not_eq_true'] at h1
      obtain ⟨⟨⟨⟨⟨⟨⟨⟨⟨⟨h1, h3⟩, h4⟩, h5⟩, h6⟩, h7⟩, h8⟩, h9⟩, h10⟩, h11⟩, h12⟩ := h1
      have hk : X.env.scope.kind = .function := by rw [G.sc]; exact G.kd
      refine PS.imp (ps_par (i := i) (j := j) G.calm G.Nd (by rw [G.N]; exact h1) (by rw [G.N]; exact h3) h4 (by rw [G.sc]; exact h6) (by rw [G.sc]; exact h7) (es_ok es G tk h2) (sw2 hk (by rw [G.sc]; exact h6) (by rw [G.sc]; exact h7) h8 h5 h9 h10 h11 h12)) fun D σ H hw => ?_
      exact par2_tr po_none' po_none' hw
    · split at h1 <;> first | cases h1; done | skip
      rename_i i j l _ _ x px y py z pz a b d
      simp only [Bool.and_eq_true, decide_eq_true_eq, Bool.not_eq_true'] at h1
      obtain ⟨⟨⟨⟨⟨⟨⟨⟨⟨⟨⟨⟨⟨⟨⟨⟨⟨⟨h1, h2'⟩, h3⟩, h4⟩, h5⟩, h6⟩, h7⟩, h8⟩, h9⟩, h10⟩, h11⟩, h12⟩, h13⟩, h14⟩, h15⟩, h16⟩, h17⟩, h18⟩, h19⟩ := h1
      have hk : X.env.scope.kind = .function := by rw [G.sc]; exact G.kd
      refine PS.imp (ps_par3 (i := i) (j := j) (l := l) G.calm G.Nd (by rw [G.N]; exact h1) (by rw [G.N]; exact h2') (by rw [G.N]; exact h3) h4 h5 h6 (by rw [G.sc]; exact h10) (by rw [G.sc]; exact h11) (by rw [G.sc]; exact h12) (es_ok es G tk h2)
        (sw3 hk (by rw [G.sc]; exact h10) (by rw [G.sc]; exact h11) (by rw [G.sc]; exact h12) h13 h14 h7 h8 h9 h15 h16 h17 h18 h19)) fun D σ H hw => ?_
      exact par3_tr po_none' po_none' po_none' hw
  | .aug i o e, c, X, W, x, G, tk, hp, h => by
    unfold chSt at h
    split at h <;> first | cases h; done | skip
    obtain ⟨h, h3⟩ := andB h
    obtain ⟨h1, h2⟩ := andB h
    obtain ⟨a1, a2, a3⟩ := G.st h2
    exact s_aug (irule2 X o (of_decide_eq_true h1)) G.Nd a1 a2 ((e_ok e G tk).v h3) a3 po_none'
  | .augi i b o e, c, X, W, x, G, tk, hp, h => by
    unfold chSt at h
    split at h <;> first | cases h; done | skip
    obtain ⟨h, h5⟩ := andB h
    obtain ⟨h, h4⟩ := andB h
    obtain ⟨h, h3⟩ := andB h
    obtain ⟨h1, h2⟩ := andB h
    exact s_augi (irule2 X o (of_decide_eq_true h1)) (G.pe h2) ((e_ok b G tk).v h4) ((e_ok e G tk).v h5) (aug_store h3)
  | .app i e, c, X, W, x, G, tk, hp, h => by
    unfold chSt at h
    split at h <;> first | cases h; done | skip
    obtain ⟨h, h5⟩ := andB h
    obtain ⟨h, h4⟩ := andB h
    obtain ⟨h, h3⟩ := andB h
    obtain ⟨h1, h2⟩ := andB h
    exact s_app (of_decide_eq_true h1) (G.pe h2) ((e_ok e G tk).v h5) rfl h3 h4 rfl
  | .exp e, c, X, W, x, G, tk, hp, h => by
    unfold chSt at h
    split at h <;> first | cases h; done | skip
    obtain ⟨h1, h2⟩ := andB h
    exact s_exp ((e_ok e G tk).v h2) (notComp_of h1)
  | .ife d a b, c, X, W, x, G, tk, hp, h => by
    unfold chSt at h
    split at h <;> first | cases h; done | skip
    obtain ⟨h, h3⟩ := andB h
    obtain ⟨h1, h2⟩ := andB h
    exact s_if ((e_ok d G tk).t h1).1 (sts_ok a G tk hp h2) (sts_ok b G tk hp h3)
  | .whl d b, c, X, W, x, G, tk, hp, h => by
    unfold chSt at h
    split at h <;> first | cases h; done | skip
    obtain ⟨h1, h2⟩ := andB h
    exact s_whl hp ((e_ok d G tk).t h1).1 (sts_ok b G tk hp h2)
  | .for g s b, c, X, W, x, G, tk, hp, h => by
    unfold chSt at h
    split at h <;> first | cases h; done | skip
    obtain ⟨h, h4⟩ := andB h
    obtain ⟨h, h3⟩ := andB h
    obtain ⟨h1, h2⟩ := andB h
    exact s_for hp G.calm (s_ok s G tk h2) (g_ok g G tk h3) (sts_ok b G tk hp h4) (notSet_of h1 _)
  | .ret e, c, X, W, x, G, tk, hp, h => by
    unfold chSt at h
    split at h <;> first | cases h; done | skip
    exact s_ret ((e_ok e G tk).v h)
  | .retN, c, X, W, x, G, tk, hp, h => by
    unfold chSt at h
    split at h <;> first | cases h; done | skip
    exact s_retN
  | .brk, c, X, W, x, G, tk, hp, h => by
    unfold chSt at h
    split at h <;> first | cases h; done | skip
    exact s_brk
  | .cont, c, X, W, x, G, tk, hp, h => by
    unfold chSt at h
    split at h <;> first | cases h; done | skip
    exact s_cont
  | .pass, c, X, W, x, G, tk, hp, h => by
    unfold chSt at h
    split at h <;> first | cases h; done | skip
    · exact s_pass
    · exact s_doc
  | .never, c, X, W, x, G, tk, hp, h => s_never
  | .insr _ _ _, c, X, W, x, G, tk, hp, h | .ext _ _, c, X, W, x, G, tk, hp, h | .raise _ _, c, X, W, x, G, tk, hp, h | .try _ _, c, X, W, x, G, tk, hp, h => by unfold chSt at h; cases h
theorem sts_ok : ∀ (s : Ss) {c : Ck} {X : Cx} {W : WX} {xs : List Stmt}, GX Y C k c X → Takes X W → PassesOwn (model X.prog X.w) X.A X.env X.xe → chSts c s xs = true → PSs X xs (tS Y W (PO_ C.io none) (exs C s))
  | .nil, c, X, W, xs, G, tk, hp, h => by
    unfold chSts at h
    cases xs with
    | nil => exact ss_nil
    | cons _ _ => cases h
  | .cons s r, c, X, W, xs, G, tk, hp, h => by
    unfold chSts at h
    cases xs with
    | nil => cases h
    | cons y ys =>
      obtain ⟨h1, h2⟩ := andB h
      exact ss_cons (st_ok s G tk hp h1) (sts_ok r G tk hp h2)
end
end
end Iv
set_option Elab.async false
set_option linter.all false
set_option maxRecDepth 100000
namespace Iv
open PySem PySem.Spec PyProof.Rows L2
section
variable {Cl : Pr} {H : Hp} {Z : ZP}
theorem env_nones : ∀ n : Nat, EnvR Cl H Z (List.replicate n none) (List.replicate n none) []
  | 0 => by unfold EnvR; exact ⟨rfl, rfl⟩
  | n + 1 => by
    rw [List.replicate_succ, List.replicate_succ]
    unfold EnvR
    exact ⟨none, _, rfl, env_nones n⟩
theorem env_start0 : ∀ {ts : List T} {vs : List V} {O : List Addr} {n : Nat}, Reps Cl H Z ts vs O → EnvR Cl H Z (ts.map some ++ List.replicate n none) (vs.map some ++ List.replicate n none) O
  | [], vs, O, n, h => by
    unfold Reps at h
    rw [h.1, h.2]
    exact env_nones n
  | t :: ts, vs, O, n, h => by
    unfold Reps at h
    obtain ⟨v, r, O1, O2, rfl, h1, h2, rfl⟩ := h
    show EnvR Cl H Z (some t :: (ts.map some ++ List.replicate n none)) (some v :: (r.map some ++ List.replicate n none)) _
    unfold EnvR
    exact ⟨v, _, O1, O2, rfl, h1, env_start0 h2, rfl⟩
theorem env_start {ts : List T} {vs : List V} {O : List Addr} {N : List Str} (h : Reps Cl H Z ts vs O) : EnvR Cl H Z (startE N.length ts) (L2.start N vs) O := by
  unfold startE L2.start
  rw [h.len]
  exact env_start0 h
end
/-- what is known of a def, in the raw -/
def FnHas0 (Y : Par) (P : Program) (w : World) (K : PySem.W.Frag) (mg : Str → Option Value) (base : Heap) (k : Nat) (i : FnI) (m : List T → Cr) : Prop :=
  ∃ (f : Addr) (fd : FuncData) (ps : List Str), mg i.name = some (.ref f) ∧ PySem.W.keepIn K (.ref f) = true ∧ Binds K fd ps [] ∧ FnOk P w K mg base (L2.CX P w) k f fd ps (spOf Y i.io i.n m)
section
variable {Y : Par} {C : Cn} {P : Program} {w : World} {K : PySem.W.Frag} {mg : Str → Option Value} {base : Heap}
theorem FnHas0.mono {k j : Nat} {i : FnI} {m : List T → Cr} (h : FnHas0 Y P w K mg base k i m) (hk : k ≤ j) : FnHas0 Y P w K mg base j i m := by
  obtain ⟨f, fd, ps, h1, h2, h3, h4⟩ := h
  exact ⟨f, fd, ps, h1, h2, h3, h4.mono hk⟩
theorem FnHas0.imp {k : Nat} {i : FnI} {m m' : List T → Cr} (h : FnHas0 Y P w K mg base k i m) (hm : ∀ ts, m' ts ≠ .bad → m ts = m' ts) : FnHas0 Y P w K mg base k i m' := by
  obtain ⟨f, fd, ps, h1, h2, h3, h4⟩ := h
  refine ⟨f, fd, ps, h1, h2, h3, h4.imp fun vs H Q E ⟨hl, ts, Z, O, r, g, a, hd⟩ => ⟨hl, ts, Z, O, r, g, a, ?_⟩⟩
  rw [hm ts fun e => by rw [e] at hd; exact hd]
  exact hd
/-- .. where only arguments that may come need be looked at -/
theorem FnHas0.impA {k : Nat} {i : FnI} {m m' : List T → Cr} (h : FnHas0 Y P w K mg base k i m) (hm : ∀ ts, argsOk i.io ts = true → ts.length = i.n → m' ts ≠ .bad → m ts = m' ts) : FnHas0 Y P w K mg base k i m' := by
  obtain ⟨f, fd, ps, h1, h2, h3, h4⟩ := h
  refine ⟨f, fd, ps, h1, h2, h3, h4.imp fun vs H Q E ⟨hl, ts, Z, O, r, g, a, hd⟩ => ⟨hl, ts, Z, O, r, g, a, ?_⟩⟩
  rw [hm ts a (by rw [r.len]; exact hl) fun e => by rw [e] at hd; exact hd]
  exact hd
/-- a def that is not read yet -/
theorem FnHas0.none_ {k j : Nat} {i : FnI} {m : List T → Cr} (h : FnHas0 Y P w K mg base k i m) : FnHas0 Y P w K mg base j i fun _ => .bad := by
  obtain ⟨f, fd, ps, h1, h2, h3, h4⟩ := h
  refine ⟨f, fd, ps, h1, h2, h3, ⟨fun vs H Q E ⟨hl, ts, Z, O, r, g, a, hd⟩ => hd.elim, fun A outer s H args us vs Q E _ _ _ _ ⟨hl, ts, Z, O, r, g, a, hd⟩ => hd.elim⟩⟩
theorem FnHas0.zero {i : FnI} {f : Addr} {fd : FuncData} {ps : List Str} (h1 : mg i.name = some (.ref f)) (h2 : PySem.W.keepIn K (.ref f) = true) (h3 : Binds K fd ps []) : FnHas0 Y P w K mg base 0 i (fun _ => .bad) :=
  ⟨f, fd, ps, h1, h2, h3, ⟨fun vs H Q E ⟨hl, ts, Z, O, r, g, a, hd⟩ => hd.elim, fun A outer s H args us vs Q E _ _ _ _ ⟨hl, ts, Z, O, r, g, a, hd⟩ => hd.elim⟩⟩
theorem fn_ok {k : Nat} {x qual : Str} {params : Arguments} {body : List Stmt} {scope : Scope} {f : Addr} {fd : FuncData} {ps : List Str} {c : Ck} {b : Ss}
    (F : FunD K x qual params body scope [] [] f fd) (S : FnScope c.N ps scope) (hc : c.sc = scope) (hK : K = Y.Cl.K) (hio : C.io = c.io) (hps : c.io = true → ps ≠ [])
    (hf : ∀ (j : Nat) (i : FnI), c.fns[j]? = some i → FnHas0 Y P w K mg base k i (C.call j)) (hb : ∀ x ∈ c.bn, mg x = none) (hch : chSts c b body = true) :
    FnOk P w K mg base (L2.CX P w) (k + 1) f fd ps (spOf Y c.io ps.length (run C c.N.length b)) := by
  refine F.ok S (fun vs H Q E h => h.1) fun cdv A outer s H vs Q E hr hsp => ?_
  have G : GX Y C k c (cxOf (L2.CX P w) P w K mg base c.N qual scope f cdv A outer s H E) :=
    ⟨rfl, S.nd, hc.symm, by rw [hc]; exact S.kind, rfl, hr, (fun _ _ => rfl), hio, hK, fun j i h => hf j i h, hb⟩
  have tk : Takes (cxOf (L2.CX P w) P w K mg base c.N qual scope f cdv A outer s H E) (fun cls d _ H => E cls d H) := takes_of rfl rfl rfl rfl
  refine ⟨_, sts_ok b G tk (passes_of rfl) hch, ?_⟩
  obtain ⟨hl, ts, Z, O, r, g, ha, hd⟩ := hsp
  refine ⟨startE c.N.length ts, Z, O, env_start r, g, ?_⟩
  have hv0 : c.io = true → ∃ v0 rest, vs = v0 :: rest ∧ (L2.start c.N vs)[0]? = some (some v0) := fun hi => by
    cases vs with
    | nil => exact absurd (List.eq_nil_of_length_eq_zero hl.symm) (hps hi)
    | cons v0 rest => exact ⟨v0, rest, rfl, rfl⟩
  -- the first slot at the end
  have last : ∀ {e : Env} {σ' : L2.St} {H' : Hp} {Z' : ZP} {O' U : List Addr} {i : T}, c.io = true → gt e 0 = some i → EnvR Y.Cl H' Z' e σ' O' → Fix (PO_ C.io none) (L2.start c.N vs) σ' → Step O H Z H' Z' U O' →
      ∃ Oi, IoR Y c.io H' Z' i vs Oi ∧ Step O H Z H' Z' U Oi := by
    intro e σ' H' Z' O' U i hi q he fx s'
    obtain ⟨v0, rest, ev, h0⟩ := hv0 hi
    obtain ⟨u, Oi, Or, h1, h2, h3, h4⟩ := env_take he q
    have e1 := fx.2 0 (by rw [hio, hi]; exact ⟨rfl, rfl⟩)
    rw [h1, h0] at e1
    cases e1
    refine ⟨Oi, ?_, s'.few (D := Or) ?_⟩
    · unfold IoR
      rw [if_pos hi]
      exact ⟨v0, rest, ev, h2⟩
    · have p := List.perm_iff_count.mp h3
      rw [List.perm_iff_count]; intro x; have := p x; simp only [List.count_append] at *; omega
  have last0 : ∀ {H' : Hp} {Z' : ZP} {O' U : List Addr} {i : T}, c.io = false → Step O H Z H' Z' U O' → IoR Y c.io H' Z' i vs [] ∧ Step O H Z H' Z' U [] := by
    intro H' Z' O' U i hi s'
    refine ⟨?_, s'.few (D := O') ?_⟩
    · unfold IoR
      rw [hi, if_neg Bool.false_ne_true]
    · rw [List.perm_iff_count]; intro x; simp only [List.count_append, List.count_nil]; omega
  unfold run at hd
  rw [hio] at hd
  cases q : exs C b (startE c.N.length ts) with
  | bad => rw [q] at hd; exact hd.elim
  | exc cc p e =>
    rw [q] at hd
    intro σ' cls d H' Z' O' he fx ex s'
    simp only at hd
    by_cases hi : c.io = true
    · rw [if_pos hi] at hd
      cases q0 : gt e 0 with
      | none => rw [q0] at hd; exact hd.elim
      | some i =>
        rw [q0] at hd
        obtain ⟨Oi, io, s2⟩ := last hi q0 he fx s'
        exact hd cls d H' Z' Oi ex io s2
    · rw [if_neg hi] at hd
      obtain ⟨io, s2⟩ := last0 (i := .non) (Bool.eq_false_iff.mpr hi) s'
      exact hd cls d H' Z' [] ex io s2
  | ok fl e =>
    rw [q] at hd
    intro σ' H' Z' O' he fx
    simp only at hd
    cases fl with
    | bk => exact hd.elim
    | ct => exact hd.elim
    | nx =>
      intro s'
      simp only at hd
      by_cases hi : c.io = true
      · rw [if_pos hi] at hd
        cases q0 : gt e 0 with
        | none => rw [q0] at hd; exact hd.elim
        | some i =>
          rw [q0] at hd
          obtain ⟨Oi, io, s2⟩ := last hi q0 he fx s'
          exact hd .non H' Z' [] Oi rep_non io s2
      · rw [if_neg hi] at hd
        obtain ⟨io, s2⟩ := last0 (i := .non) (Bool.eq_false_iff.mpr hi) s'
        exact hd .non H' Z' [] [] rep_non io s2
    | rt t =>
      intro v U rv s'
      simp only at hd
      by_cases hi : c.io = true
      · rw [if_pos hi] at hd
        cases q0 : gt e 0 with
        | none => rw [q0] at hd; exact hd.elim
        | some i =>
          rw [q0] at hd
          obtain ⟨Oi, io, s2⟩ := last hi q0 he fx s'
          exact hd v H' Z' U Oi rv io s2
      · rw [if_neg hi] at hd
        obtain ⟨io, s2⟩ := last0 (i := .non) (Bool.eq_false_iff.mpr hi) s'
        exact hd v H' Z' U [] rv io s2
/-- the law's def, at its script -/
theorem law_sp {m : List T → Cr} {H : Hp} {a : Addr} {ns : List Int} (hO : Only H) (hS : SqL Y.Cl.K H a (ns.map V.int)) (h : ∃ i, m [.scr ns] = .ok (.bl true) i) : spOf Y false 1 m [.ref a] H (fun v _ => v = .bl true) fun _ _ _ => False := by
  obtain ⟨i, h⟩ := h
  refine ⟨rfl, [.scr ns], fun b => H b ≠ none, [], ?_, ⟨List.nodup_nil, (fun _ h => by cases h), (fun _ h => by cases h), fun _ z => z⟩, rfl, ?_⟩
  · refine Reps.one ?_
    unfold Rep
    refine ⟨a, rfl, hS, ?_, rfl⟩
    rcases hS with hr | hk
    · left
      rcases hr with hr | ⟨o, hr⟩ <;> (show H a ≠ none; rw [hr]; simp)
    · exact .inr fun H' => .inr hk
  · rw [h]
    intro v H' Z' U O' r _ _
    exact (bl_of r).1
/-- what a def may let out, of some world -/
def CXA (P : Program) : CXT := fun outer H s E u s' => ∃ w, L2.CX P w outer H s E u s'
theorem FnOk.cxa {k : Nat} {f : Addr} {fd : FuncData} {ps : List Str} {sp : Sp} (F : FnOk P w K mg base (L2.CX P w) k f fd ps sp) : FnOk P w K mg base (CXA P) k f fd ps sp :=
  ⟨F.len, fun A outer s H args us vs Q E hr he hb hv hs => codeAny_mono (F.run A outer s H args us vs Q E hr he hb hv hs) fun r s' hq => by
    cases r with
    | error e => exact ⟨w, hq⟩
    | ok fl => cases fl <;> exact hq⟩
theorem cxa_no {H : Hp} {s : Shared} {e : Value} {s' : Shared} (h : CXA P [] H s (fun _ _ _ => False) e s') : False := by
  obtain ⟨w, _, _, _, _, _, _, _, _, _, _, _, _, z⟩ := h
  exact z
end
end Iv
set_option Elab.async false
set_option linter.all false
set_option maxRecDepth 100000
namespace Iv
open PySem
section
variable {C : Cn} {e : Env}
@[simp] theorem x_ev_var : ev C (.var i) e = readV e i := rfl
@[simp] theorem x_ev_mov : ev C (.mov i) e = moveV C.io e i := rfl
@[simp] theorem x_ev_non : ev C .non e = .ok .non e := rfl
@[simp] theorem x_ev_bl : ev C (.bl b) e = .ok (.bl b) e := rfl
@[simp] theorem x_ev_int : ev C (.int i) e = .ok (.int i) e := rfl
@[simp] theorem x_ev_str : ev C (.str s) e = .ok (.str s) e := rfl
@[simp] theorem x_ev_tup : ev C (.tup es) e = (evs C es e).bind fun ts e => .ok (.tup ts) e := rfl
@[simp] theorem x_ev_lst : ev C (.lst es) e = (evs C es e).bind fun ts e => .ok (.lst true (frzs ts)) e := rfl
@[simp] theorem x_ev_bin : ev C (.bin o a b) e = (ev C a e).bind fun x e => (ev C b e).bind fun y e => R.of (bin o x y) e := rfl
@[simp] theorem x_ev_neg : ev C (.neg a) e = (ev C a e).bind fun x e => (match x with
    | .int i => .ok (.int (-i)) e
    | _ => .bad) := rfl
@[simp] theorem x_ev_not : ev C (.not a) e = (ev C a e).bind fun x e => (match x with
    | .bl b => .ok (.bl (!b)) e
    | _ => .bad) := rfl
@[simp] theorem x_ev_and : ev C (.and a b) e = (ev C a e).bind fun x e => (match x with
    | .bl true => ev C b e
    | .bl false => .ok (.bl false) e
    | _ => .bad) := rfl
@[simp] theorem x_ev_or : ev C (.or a b) e = (ev C a e).bind fun x e => (match x with
    | .bl true => .ok (.bl true) e
    | .bl false => ev C b e
    | _ => .bad) := rfl
@[simp] theorem x_ev_ife : ev C (.ife c a b) e = (ev C c e).bind fun x e => (match x with
    | .bl true => ev C a e
    | .bl false => ev C b e
    | _ => .bad) := rfl
@[simp] theorem x_ev_cmp : ev C (.cmp o a b) e = (ev C a e).bind fun x e => (ev C b e).bind fun y e => boolR (cmp o x y) e := rfl
@[simp] theorem x_ev_cmpL : ev C (.cmpL o x b) e = has e x ((ev C b e).bind fun y e => (match gt e x with
    | some t => boolR (cmp o t y) e
    | none => .bad)) := rfl
@[simp] theorem x_ev_cmpR : ev C (.cmpR o a x) e = (ev C a e).bind fun y e => (match gt e x with
    | some t => boolR (cmp o y t) e
    | none => .bad) := rfl
@[simp] theorem x_ev_chain : ev C (.chain o p a b c) e = (ev C a e).bind fun x e => (ev C b e).bind fun y e => (match cmp o x y with
    | some true => (ev C c e).bind fun z e => boolR (cmp p y z) e
    | some false => .ok (.bl false) e
    | none => .bad) := rfl
@[simp] theorem x_ev_isn : ev C (.isn ng a) e = (ev C a e).bind fun x e => .ok (.bl (isNon x != ng)) e := rfl
@[simp] theorem x_ev_isnv : ev C (.isnv ng x) e = (match gt e x with
    | some t => .ok (.bl (isNon t != ng)) e
    | none => .bad) := rfl
@[simp] theorem x_ev_isb : ev C (.isb ng a b) e = (ev C a e).bind fun x e => (match x with
    | .bl c => .ok (.bl ((c == b) != ng)) e
    | _ => .bad) := rfl
@[simp] theorem x_ev_ix : ev C (.ix x i) e = has e x ((ev C i e).bind fun k e => (match gt e x with
    | some t => (match at_ t k with
      | some u => fz u e
      | none => .bad)
    | none => .bad)) := rfl
@[simp] theorem x_ev_ix2 : ev C (.ix2 x i j) e = has e x ((ev C i e).bind fun k e => (match gt e x, pv j e with
    | some t, some l => (match at_ t k with
      | some u => (match at_ u (.int l) with
        | some v => fz v e
        | none => .bad)
      | none => .bad)
    | _, _ => .bad)) := rfl
@[simp] theorem x_ev_idx : ev C (.idx a i) e = (ev C a e).bind fun t e => (ev C i e).bind fun k e => (match at_ t k with
    | some u => fz u e
    | none => .bad) := rfl
@[simp] theorem x_ev_sl : ev C (.sl a lo hi) e = (ev C a e).bind fun t e => (evo C lo e).bind fun l e => (evo C hi e).bind fun h e => R.of (slice t l h) e := rfl
@[simp] theorem x_ev_slv : ev C (.slv x lo hi) e = has e x ((evo C lo e).bind fun l e => (evo C hi e).bind fun h e => (match gt e x with
    | some t => R.of (slice t l h) e
    | none => .bad)) := rfl
@[simp] theorem x_ev_rev : ev C (.rev a) e = (ev C a e).bind fun t e => R.of (reved t) e := rfl
@[simp] theorem x_ev_revv : ev C (.revv x) e = (match gt e x with
    | some t => R.of (reved t) e
    | none => .bad) := rfl
@[simp] theorem x_ev_call : ev C (.call f as) e = (evs C as e).bind fun ts e => crR (C.call f (frzs ts)) e := rfl
@[simp] theorem x_ev_cio : ev C (.cio f x as) e = has e x ((evs C as e).bind fun ts e => (match gt e x with
    | some t => crIo (C.call f (t :: frzs ts)) x e
    | none => .bad)) := rfl
@[simp] theorem x_ev_meth : ev C (.meth f o as) e = (ev C o e).bind fun x e => (evs C as e).bind fun ts e => crR (C.call f (frz x :: frzs ts)) e := rfl
@[simp] theorem x_ev_new : ev C (.new c as) e = (evs C as e).bind fun ts e => crR (C.new c (frzs ts)) e := rfl
@[simp] theorem x_ev_clc : ev C (.clc x as) e = has e x ((evs C as e).bind fun ts e => (match gt e x with
    | some (.clo k us) => crR (C.clo k us (frzs ts)) e
    | _ => .bad)) := rfl
@[simp] theorem x_ev_prim : ev C (.prim p a) e = (ev C a e).bind fun x e => R.of (prim p x) e := rfl
@[simp] theorem x_ev_primv : ev C (.primv p x) e = (match gt e x with
    | some t => R.of (prim p t) e
    | none => .bad) := rfl
@[simp] theorem x_ev_prim2 : ev C (.prim2 p a b) e = (ev C a e).bind fun x e => (ev C b e).bind fun y e => R.of (prim2 p x y) e := rfl
@[simp] theorem x_ev_isi : ev C (.isi a k) e = (ev C a e).bind fun x e => boolR (isKd x k) e := rfl
@[simp] theorem x_ev_isiv : ev C (.isiv x k) e = (match gt e x with
    | some t => boolR (isKd t k) e
    | none => .bad) := rfl
@[simp] theorem x_ev_fld : ev C (.fld a f) e = (ev C a e).bind fun x e => R.of (fieldOf x f) e := rfl
@[simp] theorem x_ev_pop : ev C (.pop x) e = (match gt e x with
    | some (.lst true ts) => (match ts[ts.length - 1]? with
      | some t => .ok t (e.set x (some (.lst true ts.dropLast)))
      | none => .bad)
    | _ => .bad) := rfl
@[simp] theorem x_ev_lam : ev C (.lam k xs) e = (match (xs.map (gt e)).mapM id with
    | some ts => if isFs ts then .ok (.clo k ts) e else .bad
    | none => .bad) := rfl
@[simp] theorem x_ev_never : ev C .never e = .bad := rfl
@[simp] theorem x_evs_nil : evs C .nil e = .ok [] e := rfl
@[simp] theorem x_evs_cons : evs C (.cons a r) e = (ev C a e).bind fun x e => (evs C r e).bind fun xs e => .ok (x :: xs) e := rfl
@[simp] theorem x_evo_non : evo C .non e = .ok none e := rfl
@[simp] theorem x_evo_som : evo C (.som a) e = (ev C a e).bind fun x e => (match x with
    | .int i => .ok (some i) e
    | _ => .bad) := rfl
@[simp] theorem x_cnd_non : cnd C .non e = .ok true e := rfl
@[simp] theorem x_cnd_som : cnd C (.som a) e = (ev C a e).bind fun x e => (match x with
    | .bl b => .ok b e
    | _ => .bad) := rfl
@[simp] theorem x_srs_seq : srs C (.seq a) e = (ev C a e).bind fun x e => (match items x with
    | some ts => .ok (frzs ts) e
    | none => .bad) := rfl
@[simp] theorem x_srs_rg1 : srs C (.rg1 a) e = (ev C a e).bind fun x e => (match x with
    | .int j => R.of (rangeT 0 j) e
    | _ => .bad) := rfl
@[simp] theorem x_srs_rg2 : srs C (.rg2 a b) e = (ev C a e).bind fun x e => (ev C b e).bind fun y e => (match x, y with
    | .int i, .int j => R.of (rangeT i j) e
    | _, _ => .bad) := rfl
@[simp] theorem x_srs_zip : srs C (.zip a b) e = (ev C a e).bind fun x e => (ev C b e).bind fun y e => (match x, y with
    | .lst _ xs, .lst _ ys => .ok (((frzs xs).zip (frzs ys)).map fun p => .tup [p.1, p.2]) e
    | .tup xs, .tup ys => .ok (((frzs xs).zip (frzs ys)).map fun p => .tup [p.1, p.2]) e
    | _, _ => .bad) := rfl
@[simp] theorem x_asgTg_nm : asgTg C (.nm i) t e = setNm C.io i t e := rfl
@[simp] theorem x_asgTg_ix : asgTg C (.ix x i) t e = has e x ((ev C i e).bind fun k e => setIx x k t e) := rfl
@[simp] theorem x_asgTg_ix2 : asgTg C (.ix2 x i j) t e = has e x ((ev C i e).bind fun k e => (match pv j e with
    | some l => setIx2 x k (.int l) t e
    | none => .bad)) := rfl
@[simp] theorem x_asgTg_tp : asgTg C (.tp ts) t e = (match t with
    | .tup us => if us.length = ts.len then asgTgs C ts us e else .bad
    | _ => .bad) := rfl
@[simp] theorem x_ex_asg : ex C (.asg t a) e = (ev C a e).bind fun x e => (asgTg C t x e).bind fun _ e => .ok .nx e := rfl
@[simp] theorem x_ex_par : ex C (.par is es) e = (evs C es e).bind fun ts e => (parS C.io is ts e).bind fun _ e => .ok .nx e := rfl
@[simp] theorem x_ex_aug : ex C (.aug i o a) e = has e i ((ev C a e).bind fun y e => (match gt e i with
    | some x => (match iop o x y with
      | some z => (setNm C.io i z e).bind fun _ e => .ok .nx e
      | none => .bad)
    | none => .bad)) := rfl
@[simp] theorem x_ex_augi : ex C (.augi x i o a) e = has e x ((ev C i e).bind fun k e => (match gt e x with
    | some (.lst w ts) => (match at_ (.lst w ts) k with
      | some (.int u) => (ev C a e).bind fun y e => (match iop o (.int u) y with
        | some z => (setIx x k z e).bind fun _ e => .ok .nx e
        | none => .bad)
      | _ => .bad)
    | _ => .bad)) := rfl
@[simp] theorem x_ex_app : ex C (.app x a) e = hasL e x ((ev C a e).bind fun y e => (match gt e x with
    | some (.lst true ts) => if ts.length < SZ then .ok .nx (e.set x (some (.lst true (ts ++ [y])))) else .bad
    | _ => .bad)) := rfl
@[simp] theorem x_ex_insr : ex C (.insr x a b) e = hasL e x ((ev C a e).bind fun k e => (ev C b e).bind fun y e => (match gt e x, k with
    | some (.lst true ts), .int i => if 0 ≤ i ∧ i ≤ (ts.length : Int) ∧ ts.length < SZ then .ok .nx (e.set x (some (.lst true (ts.insertIdx i.toNat y)))) else .bad
    | _, _ => .bad)) := rfl
@[simp] theorem x_ex_ext : ex C (.ext x a) e = hasL e x ((ev C a e).bind fun y e => (match gt e x, y with
    | some (.lst true ts), .lst _ us => if ts.length + us.length ≤ SZ then .ok .nx (e.set x (some (.lst true (ts ++ us)))) else .bad
    | _, _ => .bad)) := rfl
@[simp] theorem x_ex_exp : ex C (.exp a) e = (ev C a e).bind fun _ e => .ok .nx e := rfl
@[simp] theorem x_ex_ife : ex C (.ife c a b) e = (ev C c e).bind fun x e => (match x with
    | .bl true => exs C a e
    | .bl false => exs C b e
    | _ => .bad) := rfl
@[simp] theorem x_ex_ret : ex C (.ret a) e = (ev C a e).bind fun x e => .ok (.rt x) e := rfl
@[simp] theorem x_ex_retN : ex C .retN e = .ok (.rt .non) e := rfl
@[simp] theorem x_ex_brk : ex C .brk e = .ok .bk e := rfl
@[simp] theorem x_ex_cont : ex C .cont e = .ok .ct e := rfl
@[simp] theorem x_ex_pass : ex C .pass e = .ok .nx e := rfl
@[simp] theorem x_ex_raise : ex C (.raise c a) e = (ev C a e).bind fun x e => .exc c (frz x) e := rfl
@[simp] theorem x_ex_never : ex C .never e = .bad := rfl
@[simp] theorem x_exs_nil : exs C .nil e = .ok .nx e := rfl
@[simp] theorem x_exs_cons : exs C (.cons s r) e = (ex C s e).bind fun f e => match f with
    | .nx => exs C r e
    | .rt t => .ok (.rt t) e
    | .bk => .ok .bk e
    | .ct => .ok .ct e := rfl
@[simp] theorem x_asgTgs_nil : asgTgs C .nil [] e = .ok () e := rfl
@[simp] theorem x_asgTgs_cons {t : Tg} {r : Tgs} {u : T} {us : List T} : asgTgs C (.cons t r) (u :: us) e = (asgTg C t u e).bind fun _ e => asgTgs C r us e := rfl
end
end Iv
set_option Elab.async false
set_option linter.all false
set_option maxRecDepth 100000
set_option exponentiation.threshold 20000
namespace Iv
open PySem
/-! ### steps -/
@[simp] theorem bin_add_i (a b : Int) : bin .add (.int a) (.int b) = some (.int (a + b)) := rfl
@[simp] theorem bin_sub_i (a b : Int) : bin .sub (.int a) (.int b) = some (.int (a - b)) := rfl
theorem bin_mul_i {a b : Int} (h : mulOk a b = true) : bin .mul (.int a) (.int b) = some (.int (a * b)) := by simp [bin, h]
theorem bin_fdiv_i {a b : Int} (h : b ≠ 0) (h2 : b.natAbs.log2 < 9000) : bin .fdiv (.int a) (.int b) = some (.int (a.fdiv b)) := by simp [bin, h, h2]
theorem bin_mod_i {a b : Int} (h : b ≠ 0) : bin .mod (.int a) (.int b) = some (.int (a.fmod b)) := by simp [bin, h]
/-! ### fractions -/
def fr (q : Rat) : T := .tup [.int q.num, .int q.den]
def ok0 (t : T) : Cr := .ok t .non
@[simp] theorem isF_fr (q : Rat) : isF (fr q) = true := rfl
@[simp] theorem frz_fr (q : Rat) : frz (fr q) = fr q := rfl
@[simp] theorem at_fr0 (q : Rat) : at_ (fr q) (.int 0) = some (.int q.num) := rfl
@[simp] theorem at_fr1 (q : Rat) : at_ (fr q) (.int 1) = some (.int q.den) := rfl
@[simp] theorem bind_ok0 {t : T} {e : Env} : crR (ok0 t) e = .ok t e := rfl
/-- small enough -/
def Wt (k : Nat) (q : Rat) : Prop := q.num.natAbs < 2 ^ k ∧ q.den < 2 ^ k
theorem Wt.mono {j k : Nat} {q : Rat} (h : Wt j q) (hk : j ≤ k) : Wt k q := ⟨Nat.lt_of_lt_of_le h.1 (Nat.pow_le_pow_right (by decide) hk), Nat.lt_of_lt_of_le h.2 (Nat.pow_le_pow_right (by decide) hk)⟩
theorem mulOk_small {a b : Int} {j k : Nat} (ha : a.natAbs < 2 ^ j) (hb : b.natAbs < 2 ^ k) (h : j + k < 1000000) : mulOk a b = true := by
  have lg : ∀ (n m : Nat), n < 2 ^ m → n.log2 ≤ m := fun n m h => by
    by_cases hz : n = 0
    · subst hz; simp [Nat.log2_zero]
    · exact Nat.le_of_lt ((Nat.log2_lt hz).mpr h)
  have h1 := lg _ _ ha
  have h2 := lg _ _ hb
  unfold mulOk
  rw [Bool.or_eq_true]
  exact .inr (decide_eq_true (by omega))
def IsMade (f : List T → Cr) : Prop := ∀ a b : Int, b ≠ 0 → a.natAbs < 2 ^ 9000 → b.natAbs < 2 ^ 9000 → f [.int a, .int b] = ok0 (fr (Rat.divInt a b))
abbrev Sm (q : Rat) : Prop := Wt 4000 q
def IsPlus (f : List T → Cr) : Prop := ∀ p q : Rat, Sm p → Sm q → f [fr p, fr q] = ok0 (fr (p + q))
def IsMinus (f : List T → Cr) : Prop := ∀ p q : Rat, Sm p → Sm q → f [fr p, fr q] = ok0 (fr (p - q))
def IsTimes (f : List T → Cr) : Prop := ∀ p q : Rat, Sm p → Sm q → f [fr p, fr q] = ok0 (fr (p * q))
def IsOver (f : List T → Cr) : Prop := ∀ p q : Rat, Sm p → Sm q → q ≠ 0 → f [fr p, fr q] = ok0 (fr (p / q))
end Iv
namespace Tx
open Iv
def made : Ss :=
    (.cons (.par [3, 4] (.cons (.primv .abs 1) (.cons (.primv .abs 0) .nil)))
    (.cons (.whl (.cmpL .gt 4 (.int 0)) (.cons (.par [3, 4] (.cons (.var 4) (.cons (.bin .mod (.primv .int 3) (.var 4)) .nil)))
    .nil))
    (.cons (.asg (.nm 2) (.ife (.cmpL .gt 1 (.int 0)) (.int 1) (.neg (.int 1))))
    (.cons (.ret (.tup (.cons (.bin .fdiv (.bin .mul (.var 2) (.var 0)) (.var 3)) (.cons (.bin .fdiv (.bin .mul (.var 2) (.var 1)) (.var 3)) .nil))))
    .nil))))
def plus_f (m : Nat) : Ss :=
    (.cons (.ret (.call m (.cons (.bin .add (.bin .mul (.ix 0 (.int 0)) (.ix 1 (.int 1))) (.bin .mul (.ix 1 (.int 0)) (.ix 0 (.int 1)))) (.cons (.bin .mul (.ix 0 (.int 1)) (.ix 1 (.int 1))) .nil))))
    .nil)
def minus_f (m : Nat) : Ss :=
    (.cons (.ret (.call m (.cons (.bin .sub (.bin .mul (.ix 0 (.int 0)) (.ix 1 (.int 1))) (.bin .mul (.ix 1 (.int 0)) (.ix 0 (.int 1)))) (.cons (.bin .mul (.ix 0 (.int 1)) (.ix 1 (.int 1))) .nil))))
    .nil)
def times_f (m : Nat) : Ss :=
    (.cons (.ret (.call m (.cons (.bin .mul (.ix 0 (.int 0)) (.ix 1 (.int 0))) (.cons (.bin .mul (.ix 0 (.int 1)) (.ix 1 (.int 1))) .nil))))
    .nil)
def over_f (m : Nat) : Ss :=
    (.cons (.ret (.call m (.cons (.bin .mul (.ix 0 (.int 0)) (.ix 1 (.int 1))) (.cons (.bin .mul (.ix 0 (.int 1)) (.ix 1 (.int 0))) .nil))))
    .nil)
end Tx
namespace Iv
theorem den_mul_lt {p q : Rat} (hp : Sm p) (hq : Sm q) : ((p.den : Int) * (q.den : Int)).natAbs < 2 ^ 9000 := by
  rw [Int.natAbs_mul, Int.natAbs_natCast, Int.natAbs_natCast]
  calc p.den * q.den < 2 ^ 4000 * 2 ^ 4000 := Nat.mul_lt_mul'' hp.2 hq.2
    _ ≤ 2 ^ 9000 := by rw [← Nat.pow_add]; exact Nat.pow_le_pow_right (by decide) (by decide)
theorem num_add_lt {p q : Rat} (hp : Sm p) (hq : Sm q) : (p.num * (q.den : Int) + q.num * (p.den : Int)).natAbs < 2 ^ 9000 ∧ (p.num * (q.den : Int) - q.num * (p.den : Int)).natAbs < 2 ^ 9000 := by
  have h1 : (p.num * (q.den : Int)).natAbs < 2 ^ 4000 * 2 ^ 4000 := by rw [Int.natAbs_mul, Int.natAbs_natCast]; exact Nat.mul_lt_mul'' hp.1 hq.2
  have h2 : (q.num * (p.den : Int)).natAbs < 2 ^ 4000 * 2 ^ 4000 := by rw [Int.natAbs_mul, Int.natAbs_natCast]; exact Nat.mul_lt_mul'' hq.1 hp.2
  have h3 : (2 : Nat) ^ 4000 * 2 ^ 4000 + 2 ^ 4000 * 2 ^ 4000 ≤ 2 ^ 9000 := by
    rw [← Nat.pow_add, ← Nat.mul_two, ← Nat.pow_succ]; exact Nat.pow_le_pow_right (by decide) (by decide)
  exact ⟨by omega, by omega⟩
theorem mul_lt2 {a b : Int} (ha : a.natAbs < 2 ^ 4000) (hb : b.natAbs < 2 ^ 4000) : (a * b).natAbs < 2 ^ 9000 := by
  rw [Int.natAbs_mul]
  calc a.natAbs * b.natAbs < 2 ^ 4000 * 2 ^ 4000 := Nat.mul_lt_mul'' ha hb
    _ ≤ 2 ^ 9000 := by rw [← Nat.pow_add]; exact Nat.pow_le_pow_right (by decide) (by decide)
theorem den_ne {p : Rat} : (p.den : Int) ≠ 0 := by exact_mod_cast p.den_nz
theorem mul_dd {p q : Rat} (hp : Sm p) (hq : Sm q) : mulOk p.den q.den = true := mulOk_small (j := 4000) (k := 4000) (by simpa using hp.2) (by simpa using hq.2) (by decide)
theorem mul_nd {p q : Rat} (hp : Sm p) (hq : Sm q) : mulOk p.num q.den = true := mulOk_small (j := 4000) (k := 4000) hp.1 (by simpa using hq.2) (by decide)
theorem mul_dn {p q : Rat} (hp : Sm p) (hq : Sm q) : mulOk p.den q.num = true := mulOk_small (j := 4000) (k := 4000) (by simpa using hp.2) hq.1 (by decide)
theorem mul_nn {p q : Rat} (hp : Sm p) (hq : Sm q) : mulOk p.num q.num = true := mulOk_small (j := 4000) (k := 4000) hp.1 hq.1 (by decide)
theorem plus_is {C : Cn} {m : Nat} (hio : C.io = false) (hm : IsMade (C.call m)) : IsPlus (run C 2 (Tx.plus_f m)) := by
  intro p q hp hq
  have h := hm (p.num * q.den + q.num * p.den) (p.den * q.den) (Int.mul_ne_zero den_ne den_ne) (num_add_lt hp hq).1 (den_mul_lt hp hq)
  have e : Rat.divInt (p.num * q.den + q.num * p.den) (p.den * q.den) = p + q := by
    rw [← Rat.divInt_add_divInt _ _ den_ne den_ne, Rat.num_divInt_den, Rat.num_divInt_den]
  rw [e] at h
  simp [Tx.plus_f, run, startE, exs, ex, ev, evs, has, gt, fz, isF, R.bind, bin, R.of, frzs, frz, hio, mul_nd hp hq, mul_nd hq hp, mul_dd hp hq, h]
  rfl
theorem minus_is {C : Cn} {m : Nat} (hio : C.io = false) (hm : IsMade (C.call m)) : IsMinus (run C 2 (Tx.minus_f m)) := by
  intro p q hp hq
  have h := hm (p.num * q.den - q.num * p.den) (p.den * q.den) (Int.mul_ne_zero den_ne den_ne) (num_add_lt hp hq).2 (den_mul_lt hp hq)
  have e : Rat.divInt (p.num * q.den - q.num * p.den) (p.den * q.den) = p - q := by
    rw [← Rat.divInt_sub_divInt _ _ den_ne den_ne, Rat.num_divInt_den, Rat.num_divInt_den]
  rw [e] at h
  simp [Tx.minus_f, run, startE, exs, ex, ev, evs, has, gt, fz, isF, R.bind, bin, R.of, frzs, frz, hio, mul_nd hp hq, mul_nd hq hp, mul_dd hp hq, h]
  rfl
theorem times_is {C : Cn} {m : Nat} (hio : C.io = false) (hm : IsMade (C.call m)) : IsTimes (run C 2 (Tx.times_f m)) := by
  intro p q hp hq
  have h := hm (p.num * q.num) (p.den * q.den) (Int.mul_ne_zero den_ne den_ne) (mul_lt2 hp.1 hq.1) (den_mul_lt hp hq)
  have e : Rat.divInt (p.num * q.num) (p.den * q.den) = p * q := by
    rw [← Rat.divInt_mul_divInt, Rat.num_divInt_den, Rat.num_divInt_den]
  rw [e] at h
  simp [Tx.times_f, run, startE, exs, ex, ev, evs, has, gt, fz, isF, R.bind, bin, R.of, frzs, frz, hio, mul_nn hp hq, mul_dd hp hq, h]
  rfl
theorem over_is {C : Cn} {m : Nat} (hio : C.io = false) (hm : IsMade (C.call m)) : IsOver (run C 2 (Tx.over_f m)) := by
  intro p q hp hq hz
  have hn : q.num ≠ 0 := fun e => hz (Rat.num_eq_zero.mp e)
  have hl : ((p.den : Int) * q.num).natAbs < 2 ^ 9000 := by
    rw [Int.natAbs_mul, Int.natAbs_natCast]
    calc p.den * q.num.natAbs < 2 ^ 4000 * 2 ^ 4000 := Nat.mul_lt_mul'' hp.2 hq.1
      _ ≤ 2 ^ 9000 := by rw [← Nat.pow_add]; exact Nat.pow_le_pow_right (by decide) (by decide)
  have h := hm (p.num * q.den) (p.den * q.num) (Int.mul_ne_zero den_ne hn) (mul_lt2 hp.1 (by simpa using hq.2)) hl
  have e : Rat.divInt (p.num * q.den) (p.den * q.num) = p / q := by
    rw [← Rat.divInt_mul_divInt, Rat.num_divInt_den, Rat.div_def, Rat.inv_def]
  rw [e] at h
  simp [Tx.over_f, run, startE, exs, ex, ev, evs, has, gt, fz, isF, R.bind, bin, R.of, frzs, frz, hio, mul_nd hp hq, mul_dn hp hq, h]
  rfl
/-! #### Euclid -/
theorem fmod_nat (a b : Nat) : Int.fmod (a : Int) (b : Int) = ((a % b : Nat) : Int) := by
  rw [Int.fmod_eq_emod_of_nonneg _ (Int.natCast_nonneg b), Int.natCast_emod]
theorem whl_step {c : Env → R T} {b : Env → R Fl} {n : Nat} {e e1 e2 : Env} (h1 : c e = .ok (.bl true) e1) (h2 : b e1 = .ok .nx e2) : whlLoop c b (n + 1) e = whlLoop c b n e2 := by
  rw [whlLoop, h1, R.bind_ok]
  simp only [h2, R.bind_ok]
theorem whl_stop {c : Env → R T} {b : Env → R Fl} {n : Nat} {e e1 : Env} (h1 : c e = .ok (.bl false) e1) : whlLoop c b (n + 1) e = .ok .nx e1 := by
  rw [whlLoop, h1, R.bind_ok]
theorem gcd_c {C : Cn} (x0 x1 x2 : Option T) (size rest : Nat) : ev C (.cmpL .gt 4 (.int 0)) [x0, x1, x2, some (.int size), some (.int rest)] = .ok (.bl (decide ((0 : Int) < rest))) [x0, x1, x2, some (.int size), some (.int rest)] := by
  simp [ev, has, gt, R.bind, boolR, cmp]
theorem gcd_b {C : Cn} (x0 x1 x2 : Option T) (size rest : Nat) (h : 0 < rest) : exs C (.cons (.par [3, 4] (.cons (.var 4) (.cons (.bin .mod (.primv .int 3) (.var 4)) .nil))) .nil) [x0, x1, x2, some (.int size), some (.int rest)] = .ok .nx [x0, x1, x2, some (.int rest), some (.int (size % rest : Nat))] := by
  have hne : ¬ (rest : Int) = 0 := by omega
  have hn : rest ≠ 0 := by omega
  rw [← fmod_nat]
  simp [evs, exs, ex, ev, gt, R.bind, readV, isF, Iv.prim, R.of, bin, hn, parS, setNm]
theorem gcd_loop {C : Cn} (x0 x1 x2 : Option T) : ∀ (n size rest m : Nat), rest ≤ size → size * rest < 2 ^ n → n < m →
    whlLoop (ev C (.cmpL .gt 4 (.int 0))) (exs C (.cons (.par [3, 4] (.cons (.var 4) (.cons (.bin .mod (.primv .int 3) (.var 4)) .nil))) .nil)) m [x0, x1, x2, some (.int size), some (.int rest)] =
      .ok .nx [x0, x1, x2, some (.int (Nat.gcd size rest)), some (.int 0)] := by
  intro n
  induction n with
  | zero =>
    intro size rest m h1 h2 h3
    have hz : rest = 0 := by
      rw [Nat.pow_zero, Nat.lt_one_iff, Nat.mul_eq_zero] at h2
      omega
    subst hz
    obtain ⟨m, rfl⟩ : ∃ k, m = k + 1 := ⟨m - 1, by omega⟩
    rw [whl_stop (gcd_c x0 x1 x2 size 0), Nat.gcd_zero_right]; rfl
  | succ n ih =>
    intro size rest m h1 h2 h3
    obtain ⟨m, rfl⟩ : ∃ k, m = k + 1 := ⟨m - 1, by omega⟩
    by_cases hz : rest = 0
    · subst hz
      rw [whl_stop (gcd_c x0 x1 x2 size 0), Nat.gcd_zero_right]; rfl
    · have hp : 0 < rest := by omega
      have hm : size % rest < rest := Nat.mod_lt _ hp
      have h2' : rest * (size % rest) < 2 ^ n := by
        have e := Nat.div_add_mod size rest
        have hd : 1 ≤ size / rest := Nat.div_pos h1 hp
        have h4 : rest * 1 ≤ rest * (size / rest) := Nat.mul_le_mul_left _ hd
        have h5 : 2 * (size % rest) ≤ size := by omega
        have h6 : rest * (2 * (size % rest)) ≤ rest * size := Nat.mul_le_mul_left _ h5
        have h7 : rest * size = size * rest := Nat.mul_comm _ _
        have h8 : rest * (2 * (size % rest)) = 2 * (rest * (size % rest)) := by rw [Nat.mul_left_comm]
        rw [Nat.pow_succ] at h2
        omega
      have hc := gcd_c (C := C) x0 x1 x2 size rest
      rw [decide_eq_true (by omega : (0 : Int) < rest)] at hc
      rw [whl_step hc (gcd_b x0 x1 x2 size rest hp), ih rest (size % rest) m (by omega) h2' (by omega)]
      rw [show Nat.gcd size rest = Nat.gcd rest (size % rest) by rw [Nat.gcd_comm size, Nat.gcd_rec rest, Nat.gcd_comm]]
theorem gcd_all {C : Cn} (x0 x1 x2 : Option T) (a b : Nat) (ha : a < 2 ^ 9000) (hb : b < 2 ^ 9000) :
    whlLoop (ev C (.cmpL .gt 4 (.int 0))) (exs C (.cons (.par [3, 4] (.cons (.var 4) (.cons (.bin .mod (.primv .int 3) (.var 4)) .nil))) .nil)) FU [x0, x1, x2, some (.int b), some (.int a)] =
      .ok .nx [x0, x1, x2, some (.int (Nat.gcd b a)), some (.int 0)] := by
  by_cases h : a ≤ b
  · refine gcd_loop x0 x1 x2 18000 b a FU h ?_ (by unfold FU; decide)
    calc b * a < 2 ^ 9000 * 2 ^ 9000 := Nat.mul_lt_mul'' hb ha
      _ = 2 ^ 18000 := by rw [← Nat.pow_add]
  · have hp : 0 < a := by omega
    have hc := gcd_c (C := C) x0 x1 x2 b a
    rw [decide_eq_true (by omega : (0 : Int) < a)] at hc
    have hF : FU = (FU - 1) + 1 := by unfold FU; decide
    rw [hF, whl_step hc (gcd_b x0 x1 x2 b a hp), Nat.mod_eq_of_lt (by omega), gcd_loop x0 x1 x2 18000 a b (FU - 1) (by omega) ?_ (by unfold FU; decide), Nat.gcd_comm]
    calc a * b < 2 ^ 9000 * 2 ^ 9000 := Nat.mul_lt_mul'' ha hb
      _ = 2 ^ 18000 := by rw [← Nat.pow_add]
theorem fdiv_nat {a : Int} {g : Nat} : Int.fdiv a g = a / g := Int.fdiv_eq_ediv_of_nonneg _ (Int.natCast_nonneg g)
theorem made_is {C : Cn} (hio : C.io = false) : IsMade (run C 5 Tx.made) := by
  intro a b hb la lb
  have hg := gcd_all (C := C) (some (.int a)) (some (.int b)) none a.natAbs b.natAbs la lb
  have ea : (if a < 0 then -a else a) = (a.natAbs : Int) := by split <;> omega
  have eb : (if b < 0 then -b else b) = (b.natAbs : Int) := by split <;> omega
  have hgp : 0 < Nat.gcd b.natAbs a.natAbs := Nat.gcd_pos_of_pos_left _ (by omega)
  have hg1 : Nat.gcd b.natAbs a.natAbs ≤ b.natAbs := Nat.gcd_le_left _ (by omega)
  have hlog : (Nat.gcd b.natAbs a.natAbs).log2 < 9000 := (Nat.log2_lt (by omega)).mpr (by omega)
  have hgn : ((Nat.gcd b.natAbs a.natAbs : Nat) : Int) ≠ 0 := by omega
  have hnum : (Rat.divInt a b).num = Int.fdiv (b.sign * a) (Nat.gcd b.natAbs a.natAbs : Nat) := by rw [Rat.num_divInt, fdiv_nat]; rfl
  have hden : ((Rat.divInt a b).den : Int) = Int.fdiv (b.sign * b) (Nat.gcd b.natAbs a.natAbs : Nat) := by
    rw [Rat.den_divInt, if_neg hb, fdiv_nat, Int.sign_mul_self]
    rfl
  unfold fr
  rw [hnum, hden]
  have m1 : mulOk b.sign a = true := by
    unfold mulOk
    rw [Bool.or_eq_true, Bool.or_eq_true]
    refine .inl (.inl (decide_eq_true ?_))
    rcases Int.lt_trichotomy b 0 with h | h | h
    · rw [Int.sign_eq_neg_one_of_neg h]; decide
    · omega
    · rw [Int.sign_eq_one_of_pos h]; decide
  have m2 : mulOk b.sign b = true := by
    unfold mulOk
    rw [Bool.or_eq_true, Bool.or_eq_true]
    refine .inl (.inl (decide_eq_true ?_))
    rcases Int.lt_trichotomy b 0 with h | h | h
    · rw [Int.sign_eq_neg_one_of_neg h]; decide
    · omega
    · rw [Int.sign_eq_one_of_pos h]; decide
  unfold Tx.made run startE
  have s1 : ex C (.par [3, 4] (.cons (.primv .abs 1) (.cons (.primv .abs 0) .nil))) [some (.int a), some (.int b), none, none, none] = .ok .nx [some (.int a), some (.int b), none, some (.int b.natAbs), some (.int a.natAbs)] := by
    simp [ex, evs, ev, gt, Iv.prim, R.of, R.bind, parS, setNm, ea, eb]
  have s3 : ∀ g r : Int, ex C (.asg (.nm 2) (.ife (.cmpL .gt 1 (.int 0)) (.int 1) (.neg (.int 1)))) [some (.int a), some (.int b), none, some (.int g), some (.int r)] = .ok .nx [some (.int a), some (.int b), some (.int b.sign), some (.int g), some (.int r)] := by
    intro g r
    rcases Int.lt_trichotomy b 0 with h | h | h
    · have h' : ¬ 0 < b := by omega
      simp [ex, ev, has, gt, R.bind, boolR, cmp, h', asgTg, setNm, hio, Int.sign_eq_neg_one_of_neg h]
    · omega
    · simp [ex, ev, has, gt, R.bind, boolR, cmp, h, asgTg, setNm, hio, Int.sign_eq_one_of_pos h]
  have s4 : ∀ r : Int, ex C (.ret (.tup (.cons (.bin .fdiv (.bin .mul (.var 2) (.var 0)) (.var 3)) (.cons (.bin .fdiv (.bin .mul (.var 2) (.var 1)) (.var 3)) .nil)))) [some (.int a), some (.int b), some (.int b.sign), some (.int (Nat.gcd b.natAbs a.natAbs : Nat)), some (.int r)] =
      .ok (.rt (.tup [.int (Int.fdiv (b.sign * a) (Nat.gcd b.natAbs a.natAbs : Nat)), .int (Int.fdiv (b.sign * b) (Nat.gcd b.natAbs a.natAbs : Nat))])) [some (.int a), some (.int b), some (.int b.sign), some (.int (Nat.gcd b.natAbs a.natAbs : Nat)), some (.int r)] := by
    intro r
    have f1 := bin_fdiv_i (a := b.sign * a) hgn (by simpa using hlog)
    have f2 := bin_fdiv_i (a := b.sign * b) hgn (by simpa using hlog)
    simp [ex, evs, ev, gt, readV, isF, bin_mul_i m1, bin_mul_i m2, f1, f2, -Int.sign_mul_self]
  simp only [List.map_cons, List.map_nil, List.cons_append, List.nil_append, List.length_cons, List.length_nil]
  show (match exs C _ [some (.int a), some (.int b), none, none, none] with | .ok f e => _ | .exc c p e => _ | .bad => _) = _
  rw [exs, s1, R.bind_ok]
  simp only
  rw [exs, ex, hg, R.bind_ok]
  simp only
  rw [exs, s3, R.bind_ok]
  simp only
  rw [exs, s4, R.bind_ok]
  simp only [hio]
  rfl
end Iv
set_option Elab.async false
set_option linter.all false
set_option maxRecDepth 100000
set_option exponentiation.threshold 20000
namespace Iv
open PySem
/-! ### weights -/
theorem Wt.divInt {a b : Int} {k : Nat} (hb : b ≠ 0) (h1 : a.natAbs < 2 ^ k) (h2 : b.natAbs < 2 ^ k) : Wt k (Rat.divInt a b) := by
  constructor
  · rw [Rat.num_divInt]
    have e : (b.sign * a / (b.gcd a : Nat)).natAbs ≤ (b.sign * a).natAbs := Int.natAbs_ediv_le_natAbs _ _
    have e2 : (b.sign * a).natAbs ≤ a.natAbs := by
      rw [Int.natAbs_mul]
      have : b.sign.natAbs = 1 := Int.natAbs_sign_of_ne_zero hb
      rw [this]; omega
    omega
  · rw [Rat.den_divInt, if_neg hb]
    have := Nat.div_le_self b.natAbs (b.gcd a)
    omega
theorem Wt.add {p q : Rat} {j k : Nat} (hp : Wt j p) (hq : Wt k q) : Wt (j + k + 1) (p + q) := by
  have e : p + q = Rat.divInt (p.num * q.den + q.num * p.den) (p.den * q.den) := by
    rw [← Rat.divInt_add_divInt _ _ den_ne den_ne, Rat.num_divInt_den, Rat.num_divInt_den]
  have h1 : (p.num * (q.den : Int)).natAbs < 2 ^ j * 2 ^ k := by rw [Int.natAbs_mul, Int.natAbs_natCast]; exact Nat.mul_lt_mul'' hp.1 hq.2
  have h2 : (q.num * (p.den : Int)).natAbs < 2 ^ k * 2 ^ j := by rw [Int.natAbs_mul, Int.natAbs_natCast]; exact Nat.mul_lt_mul'' hq.1 hp.2
  have h3 : ((p.den : Int) * (q.den : Int)).natAbs < 2 ^ j * 2 ^ k := by rw [Int.natAbs_mul, Int.natAbs_natCast, Int.natAbs_natCast]; exact Nat.mul_lt_mul'' hp.2 hq.2
  have h4 : 2 ^ (j + k + 1) = 2 ^ j * 2 ^ k + 2 ^ j * 2 ^ k := by rw [Nat.pow_succ, Nat.pow_add]; omega
  have h5 : 2 ^ k * 2 ^ j = 2 ^ j * 2 ^ k := Nat.mul_comm _ _
  rw [e]
  exact Wt.divInt (Int.mul_ne_zero den_ne den_ne) (by rw [h4]; omega) (by rw [h4]; omega)
theorem Wt.neg {p : Rat} {j : Nat} (hp : Wt j p) : Wt j (-p) := ⟨by rw [Rat.neg_num, Int.natAbs_neg]; exact hp.1, by rw [Rat.neg_den]; exact hp.2⟩
theorem Wt.sub {p q : Rat} {j k : Nat} (hp : Wt j p) (hq : Wt k q) : Wt (j + k + 1) (p - q) := by
  rw [Rat.sub_eq_add_neg]; exact hp.add hq.neg
theorem Wt.mul {p q : Rat} {j k : Nat} (hp : Wt j p) (hq : Wt k q) : Wt (j + k) (p * q) := by
  have e : p * q = Rat.divInt (p.num * q.num) (p.den * q.den) := by
    rw [← Rat.divInt_mul_divInt, Rat.num_divInt_den, Rat.num_divInt_den]
  rw [e, ]
  refine Wt.divInt (Int.mul_ne_zero den_ne den_ne) ?_ ?_
  · rw [Int.natAbs_mul, Nat.pow_add]; exact Nat.mul_lt_mul'' hp.1 hq.1
  · rw [Int.natAbs_mul, Nat.pow_add, Int.natAbs_natCast, Int.natAbs_natCast]; exact Nat.mul_lt_mul'' hp.2 hq.2
theorem Wt.inv {p : Rat} {j : Nat} (hp : Wt j p) (hz : p ≠ 0) : Wt j p⁻¹ := by
  have hn : p.num ≠ 0 := fun e => hz (Rat.num_eq_zero.mp e)
  rw [Rat.inv_def]
  exact Wt.divInt hn (by rw [Int.natAbs_natCast]; exact hp.2) hp.1
theorem Wt.div {p q : Rat} {j k : Nat} (hp : Wt j p) (hq : Wt k q) (hz : q ≠ 0) : Wt (j + k) (p / q) := by
  rw [Rat.div_def]; exact hp.mul (hq.inv hz)
theorem Wt.int (n : Int) {k : Nat} (h : n.natAbs < 2 ^ k) (hk : 0 < k) : Wt k (n : Rat) := ⟨by simpa using h, by simpa using Nat.one_lt_two_pow (by omega)⟩
/-- the sum, from the left -/
def tot (l : List Rat) : Rat := l.foldl (· + ·) 0
theorem tot_app (l : List Rat) (q : Rat) : tot (l ++ [q]) = tot l + q := by unfold tot; rw [List.foldl_append]; rfl
theorem Wt.foldl {k : Nat} : ∀ {l : List Rat} {p : Rat} {j : Nat}, Wt j p → (∀ q ∈ l, Wt k q) → Wt (j + l.length * (k + 1)) (l.foldl (· + ·) p)
  | [], p, j, hp, _ => by simpa using hp
  | q :: l, p, j, hp, hl => by
    have := Wt.foldl (l := l) (hp.add (hl q List.mem_cons_self)) fun r hr => hl r (List.mem_cons_of_mem _ hr)
    rw [List.foldl_cons]
    refine this.mono ?_
    rw [List.length_cons, Nat.succ_mul]; omega
theorem Wt.tot {k : Nat} {l : List Rat} (hl : ∀ q ∈ l, Wt k q) : Wt (1 + l.length * (k + 1)) (tot l) := Wt.foldl (Wt.int 0 (by decide) (by decide)) hl
end Iv
set_option Elab.async false
set_option linter.all false
set_option maxRecDepth 100000
set_option exponentiation.threshold 20000
namespace Iv
open PySem
/-! ### comprehensions that leave the slots as they are -/
theorem ewipe_off {e e0 : Env} {own : List Nat} (h : Iv.wipe e own = Iv.wipe e0 own) : e.length = e0.length ∧ ∀ i, i ∉ own → e[i]? = e0[i]? := by
  refine ⟨by rw [← ewipe_len e own, h, ewipe_len], fun i hi => ?_⟩
  rw [← ewipe_out e own i hi, h, ewipe_out e0 own i hi]
theorem restore_self {e0 : Env} (own : List Nat) : restore e0 e0 own = e0 := by
  refine List.ext_getElem? fun i => ?_
  by_cases hi : i ∈ own
  · by_cases hl : i < e0.length
    · rw [restore_in _ _ _ _ hi hl]
      unfold gt
      rw [List.getElem?_eq_getElem hl]; rfl
    · rw [List.getElem?_eq_none (by rw [restore_len]; omega), List.getElem?_eq_none (by omega)]
  · exact restore_out _ _ _ _ hi
theorem restore_wipe {e e0 : Env} {own : List Nat} (h : Iv.wipe e own = Iv.wipe e0 own) : restore e0 e own = e0 := by
  rw [restore_eq (ewipe_off h).1 (ewipe_off h).2, restore_self]
/-- one turn, from wiped slots -/
abbrev lcB (C : Cn) (tg : Tg) (c : Eo) (x : E) (t : T) (w : Env) : R (List T) := (asgTg C tg t w).bind fun _ e2 => (cnd C c e2).bind fun b e3 => if b = true then (ev C x e3).bind fun y e4 => .ok [y] e4 else .ok [] e3
theorem lcLoop_map {C : Cn} {tg : Tg} {c : Eo} {x : E} {own : List Nat} {e0 : Env} {g : T → List T} : ∀ {its : List T} {e : Env}, Iv.wipe e own = Iv.wipe e0 own →
    (∀ t ∈ its, ∃ e', lcB C tg c x t (Iv.wipe e0 own) = .ok (g t) e' ∧ Iv.wipe e' own = Iv.wipe e0 own) →
    ∃ e', lcLoop (fun t e1 => lcB C tg c x t (Iv.wipe e1 own)) its e = .ok (its.flatMap g) e' ∧ Iv.wipe e' own = Iv.wipe e0 own
  | [], e, h, _ => ⟨e, rfl, h⟩
  | t :: its, e, h, hb => by
    obtain ⟨e1, h1, h2⟩ := hb t List.mem_cons_self
    obtain ⟨e2, h3, h4⟩ := lcLoop_map (its := its) (e := e1) h2 fun u hu => hb u (List.mem_cons_of_mem _ hu)
    refine ⟨e2, ?_, h4⟩
    rw [lcLoop, h, h1, R.bind_ok, h3, R.bind_ok]; rfl
theorem ev_lc {C : Cn} {tg : Tg} {s : Sr} {c : Eo} {x : E} {own : List Nat} {e e0 : Env} {its : List T} (g : T → List T) (hs : srs C s e = .ok its e0) (ho : ownOk e0 own = true) (hl : (its.flatMap g).length ≤ SZ)
    (hb : ∀ t ∈ its, ∃ e', lcB C tg c x t (Iv.wipe e0 own) = .ok (g t) e' ∧ Iv.wipe e' own = Iv.wipe e0 own) : ev C (.lc own tg s c x) e = .ok (.lst true (its.flatMap g)) e0 := by
  obtain ⟨e', h1, h2⟩ := lcLoop_map (its := its) rfl hb
  rw [ev, hs, R.bind_ok]
  rw [show (lcLoop (fun t e1 => (asgTg C tg t (Iv.wipe e1 own)).bind fun _ e2 => (cnd C c e2).bind fun b e3 => if b = true then (ev C x e3).bind fun y e4 => .ok [y] e4 else .ok [] e3) its e0) = .ok (its.flatMap g) e' from h1]
  show (if _ then _ else _) = _
  rw [if_pos ⟨hl, ho⟩, restore_wipe h2]
theorem ev_lcm {C : Cn} {tg : Tg} {s : Sr} {x : E} {own : List Nat} {e e0 : Env} {its : List T} (g : T → T) (hs : srs C s e = .ok its e0) (ho : ownOk e0 own = true) (hl : its.length ≤ SZ)
    (hb : ∀ t ∈ its, ∃ e', ((asgTg C tg t (Iv.wipe e0 own)).bind fun _ e2 => ev C x e2) = .ok (g t) e' ∧ Iv.wipe e' own = Iv.wipe e0 own) : ev C (.lc own tg s .non x) e = .ok (.lst true (its.map g)) e0 := by
  have e1 : its.flatMap (fun t => [g t]) = its.map g := by
    clear hs hl hb
    induction its with
    | nil => rfl
    | cons t its ih => rw [List.flatMap_cons, ih]; rfl
  rw [← e1]
  refine ev_lc (fun t => [g t]) hs ho (by rw [e1, List.length_map]; exact hl) fun t ht => ?_
  obtain ⟨e', h1, h2⟩ := hb t ht
  refine ⟨e', ?_, h2⟩
  cases q : asgTg C tg t (Iv.wipe e0 own) with
  | bad => rw [q] at h1; cases h1
  | exc _ _ _ => rw [q] at h1; cases h1
  | ok u e2 =>
    rw [q, R.bind_ok] at h1
    show ((asgTg C tg t (Iv.wipe e0 own)).bind fun _ e2 => (cnd C .non e2).bind fun b e3 => if b = true then (ev C x e3).bind fun y e4 => .ok [y] e4 else .ok [] e3) = _
    rw [q, R.bind_ok, cnd, R.bind_ok, if_pos rfl, h1, R.bind_ok]
/-! ### rows and tables -/
def frs (l : List Rat) : T := .tup (l.map fr)
def tab (m : List (List Rat)) : T := .tup (m.map frs)
theorem isFs_map {α : Type} {f : α → T} {l : List α} (h : ∀ a ∈ l, isF (f a) = true) : isFs (l.map f) = true := by
  rw [isFs_mem]
  intro t ht
  obtain ⟨a, ha, rfl⟩ := List.mem_map.mp ht
  exact h a ha
@[simp] theorem isFs_frs (l : List Rat) : isFs (l.map fr) = true := isFs_map fun _ _ => rfl
@[simp] theorem isF_frs (l : List Rat) : isF (frs l) = true := isFs_frs l
@[simp] theorem isFs_tab (m : List (List Rat)) : isFs (m.map frs) = true := isFs_map fun l _ => isF_frs l
@[simp] theorem isF_tab (m : List (List Rat)) : isF (tab m) = true := isFs_tab m
@[simp] theorem frz_frs (l : List Rat) : frz (frs l) = frs l := frz_of _ (isF_frs l)
@[simp] theorem frz_tab (m : List (List Rat)) : frz (tab m) = tab m := frz_of _ (isF_tab m)
@[simp] theorem frzs_frl (l : List Rat) : frzs (l.map fr) = l.map fr := frzs_of _ (isFs_frs l)
@[simp] theorem frzs_tbl (l : List (List Rat)) : frzs (l.map frs) = l.map frs := frzs_of _ (isFs_tab l)
end Iv
namespace Tx
open Iv
def sum_f (p : Nat) : Ss :=
    (.cons (.asg (.nm 1) (.tup (.cons (.int 0) (.cons (.int 1) .nil))))
    (.cons (.for (.nm 2) (.seq (.var 0)) (.cons (.asg (.nm 1) (.call p (.cons (.var 1) (.cons (.var 2) .nil))))
    .nil))
    (.cons (.ret (.mov 1))
    .nil)))
end Tx
namespace Iv
theorem for_nx {f : T → Env → R Fl} {t : T} {r : List T} {e e1 : Env} (h : f t e = .ok .nx e1) : forLoop f (t :: r) e = forLoop f r e1 := by rw [forLoop, h, R.bind_ok]
theorem exs_nx {C : Cn} {s : S} {r : Ss} {e e1 : Env} (h : ex C s e = .ok .nx e1) : exs C (.cons s r) e = exs C r e1 := by rw [exs, h, R.bind_ok]
theorem exs_rt {C : Cn} {s : S} {r : Ss} {e e1 : Env} {t : T} (h : ex C s e = .ok (.rt t) e1) : exs C (.cons s r) e = .ok (.rt t) e1 := by rw [exs, h, R.bind_ok]
theorem ex_for {C : Cn} {t : Tg} {s : Sr} {b : Ss} {e e0 e1 : Env} {its : List T} {f : Fl} (hs : srs C s e = .ok its e0) (h : forLoop (fun x e => (asgTg C t x e).bind fun _ e => exs C b e) its e0 = .ok f e1) : ex C (.for t s b) e = .ok f e1 := by rw [ex, hs, R.bind_ok, h]
theorem run_rt {C : Cn} {n : Nat} {b : Ss} {ts : List T} {t : T} {e : Env} (hio : C.io = false) (h : exs C b (startE n ts) = .ok (.rt t) e) : run C n b ts = ok0 t := by
  unfold run; rw [h]; simp only [hio]; rfl
theorem run_nx {C : Cn} {n : Nat} {b : Ss} {ts : List T} {e : Env} (hio : C.io = false) (h : exs C b (startE n ts) = .ok .nx e) : run C n b ts = ok0 .non := by
  unfold run; rw [h]; simp only [hio]; rfl
/-- the sum of each beginning is small -/
def SumOk (l : List Rat) : Prop := ∀ a b, l = a ++ b → Sm (tot a)
theorem SumOk.of {l : List Rat} {k : Nat} (h : ∀ q ∈ l, Wt k q) (hk : 1 + l.length * (k + 1) ≤ 4000) : SumOk l ∧ (∀ q ∈ l, Sm q) := by
  have hmul : ∀ n, n ≤ l.length → n * (k + 1) ≤ l.length * (k + 1) := fun n hn => Nat.mul_le_mul_right _ hn
  refine ⟨fun a b e => ?_, fun q hq => (h q hq).mono ?_⟩
  · have ha : ∀ q ∈ a, Wt k q := fun q hq => h q (by rw [e]; exact List.mem_append_left _ hq)
    refine (Wt.tot ha).mono ?_
    have := hmul a.length (by rw [e, List.length_append]; omega)
    omega
  · have hl : 1 ≤ l.length := List.length_pos_of_mem hq
    have := hmul 1 hl
    omega
def IsSum (f : List T → Cr) : Prop := ∀ (l : List Rat) (v : T), (v = .lst false (l.map fr) ∨ v = frs l) → SumOk l → (∀ q ∈ l, Sm q) → f [v] = ok0 (fr (tot l))
theorem sum_loop {C : Cn} {p : Nat} (hio : C.io = false) (hp : IsPlus (C.call p)) (v : T) : ∀ (b a : List Rat) (x : Option T), (∀ c d, b = c ++ d → Sm (tot (a ++ c))) → (∀ q ∈ b, Sm q) →
    ∃ x', forLoop (fun x e => (asgTg C (.nm 2) x e).bind fun _ e => exs C (.cons (.asg (.nm 1) (.call p (.cons (.var 1) (.cons (.var 2) .nil)))) .nil) e) (b.map fr) [some v, some (fr (tot a)), x] = .ok .nx [some v, some (fr (tot (a ++ b))), x']
  | [], a, x, _, _ => ⟨x, by simp [forLoop]⟩
  | q :: b, a, x, h, hq => by
    have h0 := h [] (q :: b) rfl
    rw [List.append_nil] at h0
    have hc := hp (tot a) q h0 (hq q List.mem_cons_self)
    obtain ⟨x', hx⟩ := sum_loop hio hp v b (a ++ [q]) (some (fr q)) (fun c d e => by rw [List.append_assoc]; exact h (q :: c) d (by rw [e]; rfl)) fun r hr => hq r (List.mem_cons_of_mem _ hr)
    refine ⟨x', ?_⟩
    rw [List.map_cons, for_nx (e1 := [some v, some (fr (tot (a ++ [q]))), some (fr q)]), hx, List.append_assoc]
    · rfl
    · simp [setNm, hio, readV, gt, frzs, hc, tot_app]
theorem sum_is {C : Cn} {p : Nat} (hio : C.io = false) (hp : IsPlus (C.call p)) : IsSum (run C 3 (Tx.sum_f p)) := by
  intro l v hv hs hq
  obtain ⟨x', hx⟩ := sum_loop hio hp v l [] none (fun c d e => by rw [List.nil_append]; exact hs c d e) hq
  have e0 : fr (tot []) = .tup [.int 0, .int 1] := rfl
  have hF : isF v = true := by rcases hv with rfl | rfl <;> simp [isF]
  have hit : items v = some (l.map fr) := by rcases hv with rfl | rfl <;> rfl
  rw [e0] at hx
  have hf : ex C (.for (.nm 2) (.seq (.var 0)) (.cons (.asg (.nm 1) (.call p (.cons (.var 1) (.cons (.var 2) .nil)))) .nil)) [some v, some (.tup [.int 0, .int 1]), none] = .ok .nx [some v, some (fr (tot l)), x'] := by
    refine ex_for (its := l.map fr) ?_ hx
    rcases hv with rfl | rfl <;> simp [readV, gt, items, frs, isF]
  refine run_rt hio (e := [some v, none, x']) ?_
  unfold Tx.sum_f startE
  rw [exs_nx (e1 := [some v, some (.tup [.int 0, .int 1]), none]) (by simp [setNm, hio]), exs_nx hf]
  simp [moveV, hio, gt]
end Iv
set_option Elab.async false
set_option linter.all false
set_option maxRecDepth 100000
set_option exponentiation.threshold 20000
namespace Iv
open PySem
/-! ### values of any kind -/
mutual
/-- its ints are within the line -/
def iok : T → Bool
  | .int i => decide (i.natAbs < 2 ^ 4000)
  | .tup ts => ioks ts
  | .lst _ ts => ioks ts
  | _ => true
def ioks : List T → Bool
  | [] => true
  | t :: r => iok t && ioks r
end
/-- a value that may be asked about -/
def Gd (k : Nat) (t : T) : Prop := isF t = true ∧ sok t = true ∧ dep t ≤ k ∧ iok t = true
def Gds (k : Nat) (ts : List T) : Prop := isFs ts = true ∧ soks ts = true ∧ deps ts ≤ k ∧ ioks ts = true
theorem Gd.tup {k : Nat} {ts : List T} (h : Gd (k + 1) (.tup ts)) : Gds k ts := by
  obtain ⟨h1, h2, h3, h4⟩ := h
  refine ⟨by unfold isF at h1; exact h1, by unfold sok at h2; exact h2, by unfold dep at h3; omega, by unfold iok at h4; exact h4⟩
theorem Gd.lst {k : Nat} {o : Bool} {ts : List T} (h : Gd (k + 1) (.lst o ts)) : o = false ∧ Gds k ts := by
  obtain ⟨h1, h2, h3, h4⟩ := h
  unfold isF at h1
  have h1' := Bool.and_eq_true_iff.mp h1
  refine ⟨by simpa using h1'.1, h1'.2, by unfold sok at h2; exact h2, by unfold dep at h3; omega, by unfold iok at h4; exact h4⟩
theorem Gds.cons {k : Nat} {t : T} {ts : List T} : Gds k (t :: ts) ↔ Gd k t ∧ Gds k ts := by
  have e1 : isFs (t :: ts) = (isF t && isFs ts) := by rw [isFs]
  have e2 : soks (t :: ts) = (sok t && soks ts) := by rw [soks]
  have e3 : deps (t :: ts) = max (dep t) (deps ts) := by rw [deps]
  have e4 : ioks (t :: ts) = (iok t && ioks ts) := by rw [ioks]
  unfold Gds Gd
  rw [e1, e2, e3, e4]
  simp only [Bool.and_eq_true]
  constructor
  · rintro ⟨⟨a1, a2⟩, ⟨b1, b2⟩, c, d1, d2⟩; exact ⟨⟨a1, b1, by omega, d1⟩, a2, b2, by omega, d2⟩
  · rintro ⟨⟨a1, b1, c1, d1⟩, a2, b2, c2, d2⟩; exact ⟨⟨a1, a2⟩, ⟨b1, b2⟩, by omega, d1, d2⟩
theorem Gds.mem {k : Nat} : ∀ {ts : List T}, Gds k ts → ∀ t ∈ ts, Gd k t
  | [], _, t, h => by cases h
  | u :: ts, g, t, h => by
    have g' := Gds.cons.mp g
    rcases List.mem_cons.mp h with rfl | h
    · exact g'.1
    · exact Gds.mem g'.2 t h
theorem Gd.mono {j k : Nat} {t : T} (h : Gd j t) (hk : j ≤ k) : Gd k t := ⟨h.1, h.2.1, Nat.le_trans h.2.2.1 hk, h.2.2.2⟩
theorem Gd.shp {k : Nat} {t : T} (h : Gd k t) (hk : k ≤ 60) : shp t = true := by
  unfold Iv.shp
  rw [h.2.1, Bool.true_and]
  exact decide_eq_true (Nat.le_trans h.2.2.1 hk)
theorem Gd_fr {k : Nat} {q : Rat} (h : Sm q) (hk : 1 ≤ k) : Gd k (fr q) := by
  refine ⟨rfl, rfl, hk, ?_⟩
  have h1 := decide_eq_true h.1
  have h2 : decide ((q.den : Int).natAbs < 2 ^ 4000) = true := decide_eq_true (by simpa using h.2)
  show (decide (q.num.natAbs < 2 ^ 4000) && (decide ((q.den : Int).natAbs < 2 ^ 4000) && true)) = true
  rw [h1, h2]; rfl
def isTup : T → Bool
  | .tup _ => true
  | _ => false
def isIntT : T → Bool
  | .int _ => true
  | _ => false
theorem kd_tuple {k : Nat} {t : T} (h : Gd k t) : isKd t .tuple = some (isTup t) := by
  have h2 := h.2.1
  cases t <;> first | rfl | (unfold sok at h2; cases h2)
theorem kd_int {k : Nat} {t : T} (h : Gd k t) : isKd t .int = some (isIntT t || isKd t .bool == some true) ∧ ∃ b, isKd t .bool = some b ∧ (isIntT t = true → b = false) := by
  have h2 := h.2.1
  cases t <;> first | exact ⟨rfl, _, rfl, by simp [isIntT]⟩ | (unfold sok at h2; cases h2)
/-- the fraction that a value is -/
def ratOf : T → Option Rat
  | .tup [.int n, .int d] => if 0 < d ∧ (Rat.divInt n d).num = n ∧ ((Rat.divInt n d).den : Int) = d then some (Rat.divInt n d) else none
  | _ => none
theorem ratOf_tup {n d : Int} : ratOf (.tup [.int n, .int d]) = if 0 < d ∧ (Rat.divInt n d).num = n ∧ ((Rat.divInt n d).den : Int) = d then some (Rat.divInt n d) else none := rfl
theorem ratOf_fr (q : Rat) : ratOf (fr q) = some q := by
  have h0 : (0 : Int) < (q.den : Int) := by have := q.den_pos; omega
  show (if 0 < (q.den : Int) ∧ (Rat.divInt q.num q.den).num = q.num ∧ ((Rat.divInt q.num q.den).den : Int) = q.den then some (Rat.divInt q.num q.den) else none) = some q
  rw [Rat.num_divInt_den, if_pos ⟨h0, rfl, rfl⟩]
theorem ratOf_some {t : T} {q : Rat} (h : ratOf t = some q) : t = fr q := by
  unfold ratOf at h
  split at h
  · split at h
    · rename_i hc
      cases h
      unfold fr
      rw [hc.2.1, hc.2.2]
    · cases h
  · cases h
theorem eqT_refl_fr (q : Rat) : eqT (fr q) (fr q) = true := by simp [fr, eqT, eqTs]
theorem eqT_fr {q : Rat} {n d : Int} : eqT (fr q) (.tup [.int n, .int d]) = decide (q.num = n ∧ (q.den : Int) = d) := by
  unfold fr
  simp only [eqT, eqTs, Bool.and_true]
  rw [Bool.eq_iff_iff]
  simp
def IsFrac (f : List T → Cr) : Prop := ∀ t, Gd 60 t → f [t] = ok0 (.bl (ratOf t).isSome)
end Iv
namespace Tx
open Iv
def is_fraction (m : Nat) : Ss :=
    (.cons (.ife (.or (.not (.isiv 0 .tuple)) (.cmp .ne (.primv .len 0) (.int 2))) (.cons (.ret (.bl false))
    .nil) .nil)
    (.cons (.ife (.not (.prim .all (.lc [1] (.nm 1) (.seq (.var 0)) .non (.and (.isiv 1 .int) (.not (.isiv 1 .bool)))))) (.cons (.ret (.bl false))
    .nil) .nil)
    (.cons (.ret (.and (.cmp .gt (.ix 0 (.int 1)) (.int 0)) (.cmpR .eq (.call m (.cons (.ix 0 (.int 0)) (.cons (.ix 0 (.int 1)) .nil))) 0)))
    .nil)))
end Tx
namespace Iv
theorem boolsT_map (g : T → Bool) : ∀ ts : List T, boolsT (ts.map fun t => .bl (g t)) = some (ts.map g)
  | [] => rfl
  | t :: ts => by rw [List.map_cons, boolsT, boolsT_map g ts]; rfl
theorem prim_all {o : Bool} {g : T → Bool} {ts : List T} : Iv.prim .all (.lst o (ts.map fun t => .bl (g t))) = some (.bl (ts.all g)) := by
  show (boolsT _).map _ = _
  rw [boolsT_map]
  simp
theorem frac_is {C : Cn} {m : Nat} (hio : C.io = false) (hm : IsMade (C.call m)) : IsFrac (run C 2 (Tx.is_fraction m)) := by
  intro t ht
  have hF := ht.1
  by_cases htup : isTup t = true
  · cases t <;> first | cases htup | skip
    rename_i ts
    have g := ht.mono (j := 60) (k := 59 + 1) (by decide) |>.tup
    have hk : isKd (.tup ts) .tuple = some true := rfl
    have s1 : ex C (.ife (.or (.not (.isiv 0 .tuple)) (.cmp .ne (.primv .len 0) (.int 2))) (.cons (.ret (.bl false)) .nil) .nil) [some (.tup ts), none] = if ts.length = 2 then .ok .nx [some (.tup ts), none] else .ok (.rt (.bl false)) [some (.tup ts), none] := by
      by_cases hl : ts.length = 2
      · simp [gt, boolR, isKd, Iv.prim, cmp, hl, shp, sok, dep, eqT]
      · have hl' : ¬ (ts.length : Int) = 2 := by omega
        have hb : ((ts.length : Int) == 2) = false := beq_eq_false_iff_ne.mpr hl'
        simp [gt, boolR, isKd, Iv.prim, cmp, hl, hb, shp, sok, dep, eqT]
    by_cases hl : ts.length = 2
    · rw [if_pos hl] at s1
      have hlc : ev C (.lc [1] (.nm 1) (.seq (.var 0)) .non (.and (.isiv 1 .int) (.not (.isiv 1 .bool)))) [some (.tup ts), none] = .ok (.lst true (ts.map fun t => .bl (isIntT t))) [some (.tup ts), none] := by
        refine ev_lcm (fun t => .bl (isIntT t)) ?_ ?_ (by rw [hl]; decide) fun u hu => ⟨[some (.tup ts), some u], ?_, rfl⟩
        · simp [readV, gt, hF, items, frzs_of ts g.1]
        · simp [ownOk, gt]
        · obtain ⟨k1, b, k2, k3⟩ := kd_int (g.mem u hu)
          cases hi : isIntT u with
          | true =>
            have hb := k3 hi
            subst hb
            simp [setNm, hio, Iv.wipe, gt, k1, k2, hi, boolR]
          | false => cases b <;> simp [setNm, hio, Iv.wipe, gt, k1, k2, hi, boolR]
      obtain ⟨a, b, rfl⟩ : ∃ a b, ts = [a, b] := by
        rcases ts with _ | ⟨a, _ | ⟨b, _ | ⟨c, ts⟩⟩⟩ <;> simp at hl
        exact ⟨a, b, rfl⟩
      have s2 : ex C (.ife (.not (.prim .all (.lc [1] (.nm 1) (.seq (.var 0)) .non (.and (.isiv 1 .int) (.not (.isiv 1 .bool)))))) (.cons (.ret (.bl false)) .nil) .nil) [some (.tup [a, b]), none] = if isIntT a = true ∧ isIntT b = true then .ok .nx [some (.tup [a, b]), none] else .ok (.rt (.bl false)) [some (.tup [a, b]), none] := by
        rw [x_ex_ife, x_ev_not, x_ev_prim, hlc, R.bind_ok, prim_all]
        cases ha : isIntT a <;> cases hb : isIntT b <;> simp [ha, hb]
      by_cases hi : isIntT a = true ∧ isIntT b = true
      · rw [if_pos hi] at s2
        obtain ⟨ha, hb⟩ := hi
        cases a <;> first | cases ha | skip
        cases b <;> first | cases hb | skip
        rename_i n d
        have gn : n.natAbs < 2 ^ 4000 := of_decide_eq_true (Gds.cons.mp g).1.2.2.2
        have gd : d.natAbs < 2 ^ 4000 := of_decide_eq_true (Gds.cons.mp (Gds.cons.mp g).2).1.2.2.2
        have s3 : ex C (.ret (.and (.cmp .gt (.ix 0 (.int 1)) (.int 0)) (.cmpR .eq (.call m (.cons (.ix 0 (.int 0)) (.cons (.ix 0 (.int 1)) .nil))) 0))) [some (.tup [.int n, .int d]), none] = .ok (.rt (.bl (ratOf (.tup [.int n, .int d])).isSome)) [some (.tup [.int n, .int d]), none] := by
          have a0 : at_ (.tup [.int n, .int d]) (.int 0) = some (.int n) := rfl
          have a1 : at_ (.tup [.int n, .int d]) (.int 1) = some (.int d) := rfl
          by_cases hd : 0 < d
          · have hmade := hm n d (by omega) (by calc _ < 2 ^ 4000 := gn
                                                    _ ≤ 2 ^ 9000 := Nat.pow_le_pow_right (by decide) (by decide)) (by calc _ < 2 ^ 4000 := gd
                                                                                                                          _ ≤ 2 ^ 9000 := Nat.pow_le_pow_right (by decide) (by decide))
            have hs1 : shp (fr (Rat.divInt n d)) = true := rfl
            have hs2 : shp (.tup [.int n, .int d]) = true := rfl
            have he := eqT_fr (q := Rat.divInt n d) (n := n) (d := d)
            have hr : (ratOf (.tup [.int n, .int d])).isSome = decide ((Rat.divInt n d).num = n ∧ ((Rat.divInt n d).den : Int) = d) := by
              rw [ratOf_tup]
              by_cases hq : (Rat.divInt n d).num = n ∧ ((Rat.divInt n d).den : Int) = d
              · rw [if_pos ⟨hd, hq⟩, decide_eq_true hq]; rfl
              · rw [if_neg (fun z => hq z.2), decide_eq_false hq]; rfl
            rw [hr, ← he]
            simp [has, gt, a0, a1, fz, isF, frzs, frz, hmade, boolR, cmp, hs1, hs2, hd]
          · have hr : (ratOf (.tup [.int n, .int d])).isSome = false := by unfold ratOf; simp [hd]
            rw [hr]
            simp [has, gt, a0, a1, fz, isF, boolR, cmp, hd]
        exact run_rt hio (by unfold Tx.is_fraction; exact (exs_nx s1).trans ((exs_nx s2).trans (exs_rt s3)))
      · rw [if_neg hi] at s2
        have hr : (ratOf (.tup [a, b])).isSome = false := by
          cases a <;> cases b <;> first | rfl | exact absurd ⟨rfl, rfl⟩ hi
        rw [hr]
        exact run_rt hio (by unfold Tx.is_fraction; exact (exs_nx s1).trans (exs_rt s2))
    · rw [if_neg hl] at s1
      have hr : (ratOf (.tup ts)).isSome = false := by
        rcases ts with _ | ⟨a, _ | ⟨b, _ | ⟨c, ts⟩⟩⟩ <;> first | rfl | exact absurd rfl hl | skip
        all_goals (cases a <;> first | rfl | (cases b <;> rfl))
      rw [hr]
      exact run_rt hio (by unfold Tx.is_fraction; exact exs_rt s1)
  · have hk := kd_tuple ht
    have htup := Bool.eq_false_iff.mpr htup
    rw [htup] at hk
    have hr : (ratOf t).isSome = false := by cases t <;> first | rfl | cases htup
    rw [hr]
    have s1 : ex C (.ife (.or (.not (.isiv 0 .tuple)) (.cmp .ne (.primv .len 0) (.int 2))) (.cons (.ret (.bl false)) .nil) .nil) [some t, none] = .ok (.rt (.bl false)) [some t, none] := by
      simp [gt, boolR, hk]
    exact run_rt hio (by unfold Tx.is_fraction; exact exs_rt s1)
end Iv
set_option Elab.async false
set_option linter.all false
set_option maxRecDepth 100000
set_option exponentiation.threshold 20000
namespace Iv
open PySem
/-! ### comprehensions over one name -/
theorem lc1 {C : Cn} {s : Sr} {x : E} {i : Nat} {e e0 : Env} {its : List T} (g : T → T) (hs : srs C s e = .ok its e0) (hi : i < e0.length) (hio : C.io = false) (ho : ownOk e0 [i] = true) (hl : its.length ≤ SZ)
    (hx : ∀ t ∈ its, ev C x (e0.set i (some t)) = .ok (g t) (e0.set i (some t))) : ev C (.lc [i] (.nm i) s .non x) e = .ok (.lst true (its.map g)) e0 := by
  refine ev_lcm g hs ho hl fun t ht => ⟨e0.set i (some t), ?_, ?_⟩
  · have hw : Iv.wipe e0 [i] = e0.set i none := rfl
    rw [hw]
    have hn : ¬ (e0.set i none).length ≤ i := by rw [List.length_set]; omega
    simp only [x_asgTg_nm, setNm, hio, Bool.false_and, Bool.false_or, decide_eq_true_eq, if_neg hn, R.bind_ok, List.set_set]
    exact hx t ht
  · show (e0.set i (some t)).set i none = e0.set i none
    rw [List.set_set]
theorem lc1c {C : Cn} {s : Sr} {c x : E} {i : Nat} {e e0 : Env} {its : List T} (p : T → Bool) (g : T → T) (hs : srs C s e = .ok its e0) (hi : i < e0.length) (hio : C.io = false) (ho : ownOk e0 [i] = true) (hl : its.length ≤ SZ)
    (hc : ∀ t ∈ its, ev C c (e0.set i (some t)) = .ok (.bl (p t)) (e0.set i (some t))) (hx : ∀ t ∈ its, p t = true → ev C x (e0.set i (some t)) = .ok (g t) (e0.set i (some t))) :
    ev C (.lc [i] (.nm i) s (.som c) x) e = .ok (.lst true ((its.filter p).map g)) e0 := by
  have e1 : its.flatMap (fun t => if p t = true then [g t] else []) = (its.filter p).map g := by
    clear hs hl hc hx
    induction its with
    | nil => rfl
    | cons t its ih =>
      rw [List.flatMap_cons, ih, List.filter_cons]
      cases p t <;> rfl
  rw [← e1]
  refine ev_lc _ hs ho (by rw [e1, List.length_map]; exact Nat.le_trans (List.length_filter_le _ _) hl) fun t ht => ⟨e0.set i (some t), ?_, ?_⟩
  · have hw : Iv.wipe e0 [i] = e0.set i none := rfl
    rw [hw]
    have hn : ¬ (e0.set i none).length ≤ i := by rw [List.length_set]; omega
    show (asgTg C (.nm i) t (e0.set i none)).bind _ = _
    simp only [x_asgTg_nm, setNm, hio, Bool.false_and, Bool.false_or, decide_eq_true_eq, if_neg hn, R.bind_ok, List.set_set, x_cnd_som, hc t ht]
    cases hp : p t with
    | false => rfl
    | true =>
      rw [if_pos rfl, hx t ht hp]; rfl
  · show (e0.set i (some t)).set i none = e0.set i none
    rw [List.set_set]
theorem srs_var {C : Cn} {j : Nat} {e : Env} {t : T} {ts : List T} (h : gt e j = some t) (hf : isF t = true) (hit : items t = some ts) : srs C (.seq (.var j)) e = .ok ts e := by
  have hts : isFs ts = true := by
    cases t <;> first | cases hit; done | skip
    · cases hit; unfold isF at hf; exact hf
    · cases hit; unfold isF at hf; exact (Bool.and_eq_true_iff.mp hf).2
  rw [srs, x_ev_var, readV, h]
  simp only [hf, if_true, R.bind_ok, hit, frzs_of ts hts]
theorem prim_tuple {o : Bool} {ts : List T} (h : isFs ts = true) : Iv.prim .tuple (.lst o ts) = some (.tup ts) := by
  show (if _ then _ else _) = _
  rw [if_pos h]
theorem len_ok {l : List T} (h : l.length ≤ SZ) : l.length ≤ SZ := h
def frB (t : T) : Bool := (ratOf t).isSome
def rowB : T → Bool
  | .tup ts => ts.all frB
  | _ => false
def lenT : T → Nat
  | .tup ts => ts.length
  | .lst _ ts => ts.length
  | _ => 0
def tabB : T → Bool
  | .tup ts => ts.all rowB && ts.all fun r => lenT r == lenT (ts.getD 0 .non)
  | _ => false
mutual
/-- no list or tuple within is too long -/
def szs : T → Bool
  | .tup ts => szss ts && decide (ts.length ≤ 1000)
  | .lst _ ts => szss ts && decide (ts.length ≤ 1000)
  | _ => true
def szss : List T → Bool
  | [] => true
  | t :: r => szs t && szss r
end
theorem szss_mem : ∀ {ts : List T}, szss ts = true → ∀ t ∈ ts, szs t = true
  | [], _, t, h => by cases h
  | u :: ts, g, t, h => by
    unfold szss at g
    have g' := Bool.and_eq_true_iff.mp g
    rcases List.mem_cons.mp h with rfl | h
    · exact g'.1
    · exact szss_mem g'.2 t h
/-- a value that a law asks about -/
def Vl (k : Nat) (t : T) : Prop := Gd k t ∧ szs t = true
theorem Vl.tup {k : Nat} {ts : List T} (h : Vl (k + 1) (.tup ts)) : (∀ t ∈ ts, Vl k t) ∧ ts.length ≤ SZ ∧ isFs ts = true := by
  have h2 := h.2
  unfold szs at h2
  have h2' := Bool.and_eq_true_iff.mp h2
  have hl := of_decide_eq_true h2'.2
  refine ⟨fun t ht => ⟨h.1.tup.mem t ht, szss_mem h2'.1 t ht⟩, ?_, h.1.tup.1⟩
  exact Nat.le_trans hl (by decide)
theorem Vl.mono {j k : Nat} {t : T} (h : Vl j t) (hk : j ≤ k) : Vl k t := ⟨h.1.mono hk, h.2⟩
def IsP (k : Nat) (p : T → Bool) (f : List T → Cr) : Prop := ∀ t, Vl k t → f [t] = ok0 (.bl (p t))
end Iv
namespace Tx
open Iv
def is_row_of_f (m : Nat) : Ss :=
    (.cons (.ret (.and (.isiv 0 .tuple) (.prim .all (.lc [1] (.nm 1) (.seq (.var 0)) .non (.call m (.cons (.var 1) .nil))))))
    .nil)
def is_table (m : Nat) : Ss :=
    (.cons (.ife (.or (.not (.isiv 0 .tuple)) (.not (.prim .all (.lc [1] (.nm 1) (.seq (.var 0)) .non (.call m (.cons (.var 1) .nil)))))) (.cons (.ret (.bl false))
    .nil) .nil)
    (.cons (.ret (.prim .all (.lc [1] (.nm 1) (.seq (.var 0)) .non (.cmp .eq (.primv .len 1) (.prim .len (.ix 0 (.int 0)))))))
    .nil))
def is_weights (m : Nat) : Ss :=
    (.cons (.ret (.and (.call m (.cons (.var 0) .nil)) (.prim .all (.lc [1] (.nm 1) (.seq (.var 0)) .non (.cmp .ge (.ix 1 (.int 0)) (.int 0))))))
    .nil)
end Tx
namespace Iv
theorem all_call {C : Cn} {m : Nat} {p : T → Bool} {t : T} {ts : List T} (hio : C.io = false) (hF : isF t = true) (hit : items t = some ts) (hl : ts.length ≤ SZ) (hm : ∀ u ∈ ts, C.call m [u] = ok0 (.bl (p u))) :
    ev C (.prim .all (.lc [1] (.nm 1) (.seq (.var 0)) .non (.call m (.cons (.var 1) .nil)))) [some t, none] = .ok (.bl (ts.all p)) [some t, none] := by
  have hts : isFs ts = true := by
    cases t <;> first | cases hit; done | skip
    · cases hit; unfold isF at hF; exact hF
    · cases hit; unfold isF at hF; exact (Bool.and_eq_true_iff.mp hF).2
  have h := lc1 (C := C) (x := .call m (.cons (.var 1) .nil)) (i := 1) (fun u => .bl (p u)) (srs_var (C := C) (j := 0) (e := [some t, none]) rfl hF hit) (by simp) hio rfl hl fun u hu => by
    have hu' := isFs_mem.mp hts u hu
    simp [readV, gt, hu', frzs, frz_of u hu', hm u hu]
  rw [x_ev_prim, h, R.bind_ok, prim_all, R.of_some]
theorem row_is {C : Cn} {m : Nat} (hio : C.io = false) (hm : IsP 59 frB (C.call m)) : IsP 60 rowB (run C 2 (Tx.is_row_of_f m)) := by
  intro t ht
  have hk := kd_tuple ht.1
  by_cases htup : isTup t = true
  · cases t <;> first | cases htup | skip
    rename_i ts
    obtain ⟨h1, h2, h3⟩ := Vl.tup (k := 59) ht
    have ha := all_call hio (t := .tup ts) h3 rfl h2 fun u hu => hm u (h1 u hu)
    refine run_rt hio (e := [some (.tup ts), none]) ?_
    unfold Tx.is_row_of_f startE
    refine exs_rt ?_
    show ex C _ [some (.tup ts), none] = _
    rw [x_ex_ret, x_ev_and, x_ev_isiv]
    simp only [gt, List.getElem?_cons_zero, Option.join_some, hk]
    rw [show boolR (some (isTup (.tup ts))) [some (.tup ts), none] = .ok (.bl true) [some (.tup ts), none] from rfl, R.bind_ok, ha]
    rfl
  · have htup := Bool.eq_false_iff.mpr htup
    rw [htup] at hk
    have hr : rowB t = false := by cases t <;> first | rfl | cases htup
    rw [hr]
    refine run_rt hio (e := [some t, none]) ?_
    unfold Tx.is_row_of_f startE
    refine exs_rt ?_
    show ex C _ [some t, none] = _
    simp [gt, hk, boolR]
end Iv
set_option Elab.async false
set_option linter.all false
set_option maxRecDepth 100000
set_option exponentiation.threshold 20000
namespace Iv
open PySem
theorem rowB_tup {t : T} (h : rowB t = true) : ∃ ts, t = .tup ts ∧ ∀ u ∈ ts, frB u = true := by
  cases t <;> first | cases h; done | skip
  exact ⟨_, rfl, fun u hu => List.all_eq_true.mp h u hu⟩
/-- a row is a row of fractions -/
theorem frs_of {ts : List T} (h : ∀ u ∈ ts, frB u = true) : ∃ l : List Rat, ts = l.map fr := by
  induction ts with
  | nil => exact ⟨[], rfl⟩
  | cons t ts ih =>
    obtain ⟨l, rfl⟩ := ih fun u hu => h u (List.mem_cons_of_mem _ hu)
    have ht := h t List.mem_cons_self
    unfold frB at ht
    obtain ⟨q, hq⟩ := Option.isSome_iff_exists.mp ht
    exact ⟨q :: l, by rw [List.map_cons, ratOf_some hq]⟩
theorem rowB_iff {t : T} : rowB t = true ↔ ∃ l, t = frs l := by
  constructor
  · intro h
    obtain ⟨ts, e, h'⟩ := rowB_tup h
    subst e
    obtain ⟨l, e⟩ := frs_of h'
    subst e
    exact ⟨l, rfl⟩
  · rintro ⟨l, rfl⟩
    show (l.map fr).all frB = true
    rw [List.all_map, List.all_eq_true]
    intro q _
    show (ratOf (fr q)).isSome = true
    rw [ratOf_fr]; rfl
@[simp] theorem rowB_frs (l : List Rat) : rowB (frs l) = true := rowB_iff.mpr ⟨l, rfl⟩
@[simp] theorem lenT_frs (l : List Rat) : lenT (frs l) = l.length := by simp [lenT, frs]
theorem prim_len {t : T} (h : rowB t = true) : Iv.prim .len t = some (.int (lenT t)) := by
  obtain ⟨ts, rfl, _⟩ := rowB_tup h; rfl
theorem gd_getD {ts : List T} {t : T} (h : t ∈ ts) : at_ (.tup ts) (.int 0) = some (ts.getD 0 .non) ∧ ts.getD 0 .non ∈ ts := by
  cases ts with
  | nil => cases h
  | cons u r => exact ⟨by simp [at_, L2.atI, L2.ixN], List.mem_cons_self⟩
theorem eqT_int {a b : Int} : eqT (.int a) (.int b) = (a == b) := by simp [eqT]
theorem table_is {C : Cn} {m : Nat} (hio : C.io = false) (hm : IsP 58 rowB (C.call m)) : IsP 59 tabB (run C 2 (Tx.is_table m)) := by
  intro t ht
  have hk := kd_tuple ht.1
  by_cases htup : isTup t = true
  · cases t <;> first | cases htup | skip
    rename_i ts
    obtain ⟨h1, h2, h3⟩ := Vl.tup (k := 58) ht
    have ha := all_call hio (t := .tup ts) h3 rfl h2 fun u hu => hm u (h1 u hu)
    have s1 : ex C (.ife (.or (.not (.isiv 0 .tuple)) (.not (.prim .all (.lc [1] (.nm 1) (.seq (.var 0)) .non (.call m (.cons (.var 1) .nil)))))) (.cons (.ret (.bl false)) .nil) .nil) [some (.tup ts), none] = if ts.all rowB = true then .ok .nx [some (.tup ts), none] else .ok (.rt (.bl false)) [some (.tup ts), none] := by
      rw [x_ex_ife, x_ev_or, x_ev_not, x_ev_isiv]
      simp only [gt, List.getElem?_cons_zero, Option.join_some, hk]
      rw [show boolR (some (isTup (.tup ts))) [some (.tup ts), none] = .ok (.bl true) [some (.tup ts), none] from rfl]
      simp only [R.bind_ok, Bool.not_true]
      rw [x_ev_not, ha]
      cases ts.all rowB <;> simp
    by_cases hr : ts.all rowB = true
    · rw [if_pos hr] at s1
      have hrow := List.all_eq_true.mp hr
      have hlc := lc1 (C := C) (x := .cmp .eq (.primv .len 1) (.prim .len (.ix 0 (.int 0)))) (i := 1) (fun r => .bl (lenT r == lenT (ts.getD 0 .non))) (srs_var (C := C) (j := 0) (e := [some (.tup ts), none]) rfl h3 rfl) (by simp) hio rfl h2 fun u hu => by
        obtain ⟨g1, g2⟩ := gd_getD hu
        have hf := isFs_mem.mp h3 _ g2
        have e1 := prim_len (hrow u hu)
        have e2 := prim_len (hrow _ g2)
        have e3 : (lenT u == lenT (ts.getD 0 .non)) = ((lenT u : Int) == (lenT (ts.getD 0 .non) : Int)) := by
          rw [Bool.eq_iff_iff]; simp only [beq_iff_eq]; omega
        simp [gt, e1, has, g1, fz, -List.getD_eq_getElem?_getD, hf, e2, cmp, shp, sok, dep, boolR, eqT_int, e3]
      have s2 : ex C (.ret (.prim .all (.lc [1] (.nm 1) (.seq (.var 0)) .non (.cmp .eq (.primv .len 1) (.prim .len (.ix 0 (.int 0))))))) [some (.tup ts), none] = .ok (.rt (.bl (ts.all fun r => lenT r == lenT (ts.getD 0 .non)))) [some (.tup ts), none] := by
        rw [x_ex_ret, x_ev_prim, hlc, R.bind_ok, prim_all, R.of_some, R.bind_ok]
      have e4 : tabB (.tup ts) = ts.all fun r => lenT r == lenT (ts.getD 0 .non) := by
        show (ts.all rowB && _) = _
        rw [hr, Bool.true_and]
      rw [e4]
      exact run_rt hio (by unfold Tx.is_table; exact (exs_nx s1).trans (exs_rt s2))
    · rw [if_neg hr] at s1
      have e4 : tabB (.tup ts) = false := by
        show (ts.all rowB && _) = _
        rw [Bool.eq_false_iff.mpr hr, Bool.false_and]
      rw [e4]
      exact run_rt hio (by unfold Tx.is_table; exact exs_rt s1)
  · have htup := Bool.eq_false_iff.mpr htup
    rw [htup] at hk
    have hr : tabB t = false := by cases t <;> first | rfl | cases htup
    rw [hr]
    refine run_rt hio (e := [some t, none]) ?_
    unfold Tx.is_table startE
    refine exs_rt ?_
    show ex C _ [some t, none] = _
    simp [gt, hk, boolR]
/-! ### weights, chances -/
def nonneg (t : T) : Bool := match ratOf t with
  | some q => decide (0 ≤ q.num)
  | none => false
def wtB (t : T) : Bool := rowB t && (match t with
  | .tup ts => ts.all nonneg
  | _ => false)
theorem wtB_iff {t : T} : wtB t = true ↔ ∃ l : List Rat, t = frs l ∧ ∀ q ∈ l, 0 ≤ q.num := by
  unfold wtB
  rw [Bool.and_eq_true, rowB_iff]
  constructor
  · rintro ⟨⟨l, rfl⟩, h⟩
    refine ⟨l, rfl, fun q hq => ?_⟩
    have h : (l.map fr).all nonneg = true := h
    rw [List.all_map, List.all_eq_true] at h
    have := h q hq
    simpa [nonneg, ratOf_fr] using this
  · rintro ⟨l, rfl, h⟩
    refine ⟨⟨l, rfl⟩, ?_⟩
    show (l.map fr).all nonneg = true
    rw [List.all_map, List.all_eq_true]
    intro q hq
    simpa [nonneg, ratOf_fr] using h q hq
theorem items_frs (l : List Rat) : items (frs l) = some (l.map fr) := rfl
theorem weights_is {C : Cn} {m : Nat} (hio : C.io = false) (hm : IsP 60 rowB (C.call m)) : IsP 60 wtB (run C 2 (Tx.is_weights m)) := by
  intro t ht
  have hc := hm t ht
  have hF := ht.1.1
  refine run_rt hio (e := [some t, none]) ?_
  unfold Tx.is_weights startE
  refine exs_rt ?_
  show ex C _ [some t, none] = _
  by_cases hr : rowB t = true
  · obtain ⟨l, rfl⟩ := rowB_iff.mp hr
    obtain ⟨h1, h2, h3⟩ := Vl.tup (k := 59) ht
    have hlc := lc1 (C := C) (x := .cmp .ge (.ix 1 (.int 0)) (.int 0)) (i := 1) (fun u => .bl (nonneg u)) (srs_var (C := C) (j := 0) (e := [some (frs l), none]) rfl hF (items_frs l)) (by simp) hio rfl h2 fun u hu => by
      obtain ⟨q, _, rfl⟩ := List.mem_map.mp hu
      simp [has, gt, fz, isF, cmp, boolR, nonneg, ratOf_fr]
    rw [x_ex_ret, x_ev_and, x_ev_call, x_evs_cons, x_ev_var]
    simp only [readV, gt, List.getElem?_cons_zero, Option.join_some, hF, if_true, R.bind_ok, x_evs_nil, frzs, frz_frs, hc, bind_ok0, hr]
    rw [x_ev_prim, hlc, R.bind_ok, prim_all, R.of_some]
    unfold wtB
    rw [hr]; rfl
  · have hr := Bool.eq_false_iff.mpr hr
    have hw : wtB t = false := by unfold wtB; rw [hr]; rfl
    rw [hw]
    simp [readV, gt, hF, frzs, frz_of t hF, hc, hr]
end Iv
set_option Elab.async false
set_option linter.all false
set_option maxRecDepth 100000
set_option exponentiation.threshold 20000
namespace Tx
open Iv
def is_chances (w s : Nat) : Ss :=
    (.cons (.ret (.and (.call w (.cons (.var 0) .nil)) (.cmp .eq (.call s (.cons (.primv .list 0) .nil)) (.tup (.cons (.int 1) (.cons (.int 1) .nil))))))
    .nil)
def is_kernel (t c : Nat) : Ss :=
    (.cons (.ret (.and (.call t (.cons (.var 0) .nil)) (.prim .all (.lc [1] (.nm 1) (.seq (.var 0)) .non (.call c (.cons (.var 1) .nil))))))
    .nil)
def check1 (t : Nat) : Ss :=
    (.cons (.ife (.not (.call t (.cons (.var 0) .nil))) (.cons .never
    .nil) .nil)
    .nil)
def row_sums (s : Nat) : Ss :=
    (.cons (.ret (.prim .tuple (.lc [1] (.nm 1) (.seq (.var 0)) .non (.call s (.cons (.primv .list 1) .nil)))))
    .nil)
def column_sums (s : Nat) : Ss :=
    (.cons (.ret (.prim .tuple (.lc [2] (.nm 2) (.rg1 (.var 1)) .non (.call s (.cons (.lc [3] (.nm 3) (.seq (.var 0)) .non (.ix 3 (.var 2))) .nil)))))
    .nil)
def turned_table : Ss :=
    (.cons (.ret (.prim .tuple (.lc [2] (.nm 2) (.rg1 (.var 1)) .non (.prim .tuple (.lc [3] (.nm 3) (.seq (.var 0)) .non (.ix 3 (.var 2)))))))
    .nil)
def dot_f (t s : Nat) : Ss :=
    (.cons (.ret (.call s (.cons (.lc [2] (.nm 2) (.rg1 (.primv .len 0)) .non (.call t (.cons (.ix 0 (.var 2)) (.cons (.ix 1 (.var 2)) .nil)))) .nil)))
    .nil)
end Tx
namespace Iv
open PySem
def chB (t : T) : Bool := wtB t && (match t with
  | .tup ts => decide (tot (ts.filterMap ratOf) = 1)
  | _ => false)
theorem fm_frs (l : List Rat) : (l.map fr).filterMap ratOf = l := by
  induction l with
  | nil => rfl
  | cons q l ih => rw [List.map_cons, List.filterMap_cons, ratOf_fr, ih]
theorem chB_frs (l : List Rat) : chB (frs l) = (wtB (frs l) && decide (tot l = 1)) := by
  show (wtB (frs l) && decide (tot ((l.map fr).filterMap ratOf) = 1)) = _
  rw [fm_frs]
theorem eqT_one (q : Rat) : eqT (fr q) (.tup [.int 1, .int 1]) = decide (q = 1) := by
  rw [eqT_fr, Bool.eq_iff_iff]
  simp only [decide_eq_true_eq]
  constructor
  · rintro ⟨h1, h2⟩
    exact Rat.ext h1 (by have : (1 : Rat).den = 1 := rfl; omega)
  · rintro rfl; exact ⟨rfl, rfl⟩
theorem cmpEq {a b : T} (h1 : shp a = true) (h2 : shp b = true) : cmp .eq a b = some (eqT a b) := by simp [cmp, h1, h2]
theorem cmpNe {a b : T} (h1 : shp a = true) (h2 : shp b = true) : cmp .ne a b = some (!eqT a b) := by simp [cmp, h1, h2]
def IsCh (f : List T → Cr) : Prop := ∀ t, Vl 60 t → (∀ l, t = frs l → SumOk l ∧ ∀ q ∈ l, Sm q) → f [t] = ok0 (.bl (chB t))
theorem chances_is {C : Cn} {w s : Nat} (hio : C.io = false) (hw : IsP 60 wtB (C.call w)) (hs : IsSum (C.call s)) : IsCh (run C 1 (Tx.is_chances w s)) := by
  intro t ht hsum
  have hc := hw t ht
  have hF := ht.1.1
  refine run_rt hio (e := [some t]) ?_
  unfold Tx.is_chances startE
  refine exs_rt ?_
  show ex C _ [some t] = _
  by_cases hr : wtB t = true
  · obtain ⟨l, rfl, _⟩ := wtB_iff.mp hr
    obtain ⟨h1, h2⟩ := hsum l rfl
    have hcall := hs l (.lst false (l.map fr)) (.inl rfl) h1 h2
    have hp : Iv.prim .list (frs l) = some (.lst true (l.map fr)) := by
      show (if _ then _ else _) = _
      rw [if_pos (isFs_frs l)]
    have hcmp : cmp .eq (fr (tot l)) (.tup [.int 1, .int 1]) = some (decide (tot l = 1)) := by
      rw [cmpEq rfl rfl, eqT_one]
    rw [chB_frs, hr]
    simp [readV, gt, frzs, hc, hr, hp, frz, hcall, hcmp, boolR]
  · have hr := Bool.eq_false_iff.mpr hr
    have hb : chB t = false := by unfold chB; rw [hr]; rfl
    rw [hb]
    simp [readV, gt, hF, frzs, frz_of t hF, hc, hr]
def knB (t : T) : Bool := tabB t && (match t with
  | .tup ts => ts.all chB
  | _ => false)
def SumsOk (t : T) : Prop := ∀ ts, t = .tup ts → ∀ l, frs l ∈ ts → SumOk l ∧ ∀ q ∈ l, Sm q
theorem tabB_rows {ts : List T} (h : tabB (.tup ts) = true) : ∀ u ∈ ts, rowB u = true := List.all_eq_true.mp (Bool.and_eq_true_iff.mp h).1
def IsKn (f : List T → Cr) : Prop := ∀ t, Vl 59 t → SumsOk t → f [t] = ok0 (.bl (knB t))
theorem kernel_is {C : Cn} {m c : Nat} (hio : C.io = false) (hm : IsP 59 tabB (C.call m)) (hc : IsCh (C.call c)) : IsKn (run C 2 (Tx.is_kernel m c)) := by
  intro t ht hsum
  have hcall := hm t ht
  have hF := ht.1.1
  refine run_rt hio (e := [some t, none]) ?_
  unfold Tx.is_kernel startE
  refine exs_rt ?_
  show ex C _ [some t, none] = _
  by_cases hr : tabB t = true
  · have htup : ∃ ts, t = .tup ts := by cases t <;> first | exact ⟨_, rfl⟩ | cases hr
    obtain ⟨ts, rfl⟩ := htup
    obtain ⟨h1, h2, h3⟩ := Vl.tup (k := 58) ht
    have ha := all_call (m := c) (p := chB) hio (t := .tup ts) h3 rfl h2 fun u hu => by
      refine hc u ((h1 u hu).mono (by decide)) fun l e => ?_
      subst e
      exact hsum ts rfl l hu
    rw [x_ex_ret, x_ev_and, x_ev_call, x_evs_cons, x_ev_var]
    simp only [readV, gt, List.getElem?_cons_zero, Option.join_some, hF, if_true, R.bind_ok, x_evs_nil, frzs, frz_of _ hF, hcall, bind_ok0, hr]
    rw [ha]
    have e4 : knB (.tup ts) = ts.all chB := by
      show (tabB (.tup ts) && _) = _
      rw [hr, Bool.true_and]
    rw [e4]; rfl
  · have hr := Bool.eq_false_iff.mpr hr
    have hb : knB t = false := by unfold knB; rw [hr]; rfl
    rw [hb]
    simp [readV, gt, hF, frzs, frz_of t hF, hcall, hr]
theorem check_is {C : Cn} {m : Nat} {t : T} (hio : C.io = false) (hF : isF t = true) (hm : C.call m [t] = ok0 (.bl true)) : run C 1 (Tx.check1 m) [t] = ok0 .non := by
  refine run_nx hio (e := [some t]) ?_
  unfold Tx.check1 startE
  show exs C _ [some t] = _
  rw [exs_nx (e1 := [some t])]
  · simp
  · simp [readV, gt, hF, frzs, frz_of t hF, hm]
/-! ### sums of rows and columns -/
/-- a table whose rows and columns may be summed up -/
def rowSums (m : List (List Rat)) : List Rat := m.map tot
def IsRowSums (f : List T → Cr) : Prop := ∀ m : List (List Rat), m.length ≤ SZ → (∀ l ∈ m, SumOk l ∧ ∀ q ∈ l, Sm q) → f [tab m] = ok0 (frs (rowSums m))
theorem prim_list_frs (l : List Rat) : Iv.prim .list (frs l) = some (.lst true (l.map fr)) := by
  show (if _ then _ else _) = _
  rw [if_pos (isFs_frs l)]
theorem rowsums_is {C : Cn} {s : Nat} (hio : C.io = false) (hs : IsSum (C.call s)) : IsRowSums (run C 2 (Tx.row_sums s)) := by
  intro m hl hm
  refine run_rt hio (e := [some (tab m), none]) ?_
  unfold Tx.row_sums startE
  refine exs_rt ?_
  show ex C _ [some (tab m), none] = _
  have hlc := lc1 (C := C) (x := .call s (.cons (.primv .list 1) .nil)) (i := 1) (fun u => match u with
      | .tup ts => fr (tot (ts.filterMap ratOf))
      | _ => .non) (srs_var (C := C) (j := 0) (e := [some (tab m), none]) rfl (isF_tab m) rfl) (by simp) hio rfl (by simpa using hl) fun u hu => by
    obtain ⟨l, hlm, rfl⟩ := List.mem_map.mp hu
    obtain ⟨h1, h2⟩ := hm l hlm
    have hc := hs l (.lst false (l.map fr)) (.inl rfl) h1 h2
    show _ = R.ok (fr (tot ((l.map fr).filterMap ratOf))) _
    rw [fm_frs]
    simp [gt, prim_list_frs, frzs, frz, hc]
  have e1 : (m.map frs).map (fun u => match u with
      | .tup ts => fr (tot (ts.filterMap ratOf))
      | _ => .non) = (rowSums m).map fr := by
    unfold rowSums
    rw [List.map_map, List.map_map]
    refine List.map_congr_left fun l _ => ?_
    show fr (tot ((l.map fr).filterMap ratOf)) = fr (tot l)
    rw [fm_frs]
  rw [x_ex_ret, x_ev_prim, hlc, R.bind_ok, e1, prim_tuple (isFs_frs _)]
  rfl
end Iv
set_option Elab.async false
set_option linter.all false
set_option maxRecDepth 100000
set_option exponentiation.threshold 20000
namespace Tx
open Iv
def dot_table (d s : Nat) : Ss :=
    (.cons (.ret (.call s (.cons (.lc [2] (.nm 2) (.rg1 (.primv .len 0)) .non (.call d (.cons (.ix 0 (.var 2)) (.cons (.ix 1 (.var 2)) .nil)))) .nil)))
    .nil)
def plain_kernel : Ss :=
    (.cons (.ret (.prim .tuple (.lc [1] (.nm 1) (.rg1 (.var 0)) .non (.prim .tuple (.lc [2] (.nm 2) (.rg1 (.var 0)) .non (.ife (.cmpL .eq 1 (.var 2)) (.tup (.cons (.int 1) (.cons (.int 1) .nil))) (.tup (.cons (.int 0) (.cons (.int 1) .nil)))))))))
    .nil)
def even_kernel (m : Nat) : Ss :=
    (.cons (.ret (.prim .tuple (.lc [1] (.nm 1) (.rg1 (.var 0)) .non (.prim .tuple (.bin .mul (.lst (.cons (.call m (.cons (.int 1) (.cons (.var 0) .nil))) .nil)) (.var 0))))))
    .nil)
def apart_coupling (t : Nat) : Ss :=
    (.cons (.ret (.prim .tuple (.lc [2] (.nm 2) (.seq (.var 0)) .non (.prim .tuple (.lc [3] (.nm 3) (.seq (.var 1)) .non (.call t (.cons (.var 2) (.cons (.var 3) .nil))))))))
    .nil)
def scaled_table (t : Nat) : Ss :=
    (.cons (.ret (.prim .tuple (.lc [2] (.nm 2) (.seq (.var 0)) .non (.prim .tuple (.lc [3] (.nm 3) (.seq (.var 2)) .non (.call t (.cons (.var 3) (.cons (.var 1) .nil))))))))
    .nil)
end Tx
namespace Iv
open PySem
theorem lc1r {C : Cn} {a x : E} {i n : Nat} {e e0 : Env} (g : Nat → T) (ha : ev C a e = .ok (.int n) e0) (hi : i < e0.length) (hio : C.io = false) (ho : ownOk e0 [i] = true) (hl : n ≤ SZ)
    (hx : ∀ k, k < n → ev C x (e0.set i (some (.int k))) = .ok (g k) (e0.set i (some (.int k)))) : ev C (.lc [i] (.nm i) (.rg1 a) .non x) e = .ok (.lst true ((List.range n).map g)) e0 := by
  have hr : rangeT 0 (n : Int) = some ((List.range n).map fun k : Nat => T.int k) := by
    unfold rangeT
    have hb : -RGB ≤ 0 ∧ (0 : Int) < RGB ∧ -RGB ≤ (n : Int) ∧ (n : Int) < RGB := by unfold RGB; have : SZ = 16777216 := rfl; omega
    rw [if_pos hb]
    simp
  have hs : srs C (.rg1 a) e = .ok ((List.range n).map fun k : Nat => T.int k) e0 := by
    rw [srs, ha, R.bind_ok]
    show R.of (rangeT 0 (n : Int)) e0 = _
    rw [hr]; rfl
  have h := lc1 (C := C) (x := x) (i := i) (fun t => match t with
    | .int k => g k.toNat
    | _ => .non) hs hi hio ho (by simpa using hl) fun t ht => by
      obtain ⟨k, hk, rfl⟩ := List.mem_map.mp ht
      exact hx k (List.mem_range.mp hk)
  rw [h, List.map_map]
  congr 2
/-- the k-th column -/
def col (k : Nat) (m : List (List Rat)) : List Rat := m.map fun r => r.getD k 0
def turned (m : List (List Rat)) (c : Nat) : List (List Rat) := (List.range c).map fun k => col k m
theorem at_frs {l : List Rat} {k : Nat} (h : k < l.length) : at_ (frs l) (.int k) = some (fr (l.getD k 0)) := by
  show L2.atI (l.map fr) (k : Int) = _
  refine L2.atI_nat ?_
  rw [List.getElem?_map, List.getElem?_eq_getElem h, List.getD_eq_getElem?_getD, List.getElem?_eq_getElem h]
  rfl
theorem at_tab {m : List (List Rat)} {k : Nat} (h : k < m.length) : at_ (tab m) (.int k) = some (frs (m.getD k [])) := by
  show L2.atI (m.map frs) (k : Int) = _
  refine L2.atI_nat ?_
  rw [List.getElem?_map, List.getElem?_eq_getElem h, List.getD_eq_getElem?_getD, List.getElem?_eq_getElem h]
  rfl
theorem fz_fr (q : Rat) (e : Env) : fz (fr q) e = .ok (fr q) e := rfl
theorem fz_frs (l : List Rat) (e : Env) : fz (frs l) e = .ok (frs l) e := by simp [fz]
theorem rv_int (n : Int) (e : Env) (i : Nat) (h : gt e i = some (.int n)) : readV e i = .ok (.int n) e := by rw [readV, h]; rfl
/-- the column k of the table in slot 0, by a comprehension over slot 3 -/
theorem ev_col {C : Cn} (hio : C.io = false) {m : List (List Rat)} {x1 : Option T} {k : Nat} (hl : m.length ≤ SZ) (hk : ∀ r ∈ m, k < r.length) :
    ev C (.lc [3] (.nm 3) (.seq (.var 0)) .non (.ix 3 (.var 2))) [some (tab m), x1, some (.int k), none] = .ok (.lst true ((col k m).map fr)) [some (tab m), x1, some (.int k), none] := by
  have h := lc1 (C := C) (x := .ix 3 (.var 2)) (i := 3) (fun u => match u with
      | .tup ts => ts.getD k .non
      | _ => .non) (srs_var (C := C) (j := 0) (e := [some (tab m), x1, some (.int k), none]) rfl (isF_tab m) rfl) (by simp) hio rfl (by simpa using hl) fun u hu => by
    obtain ⟨l, hlm, rfl⟩ := List.mem_map.mp hu
    have h1 := at_frs (hk l hlm)
    have h2 : (l.map fr).getD k .non = fr (l.getD k 0) := by
      have := hk l hlm
      rw [List.getD_eq_getElem?_getD, List.getElem?_map, List.getElem?_eq_getElem this, List.getD_eq_getElem?_getD, List.getElem?_eq_getElem this]; rfl
    show _ = R.ok ((l.map fr).getD k .non) _
    rw [h2]
    simp [has, gt, rv_int, h1, fz_fr, -List.getD_eq_getElem?_getD]
  rw [h]
  congr 2
  unfold col
  rw [List.map_map, List.map_map]
  refine List.map_congr_left fun l hlm => ?_
  have := hk l hlm
  show (l.map fr).getD k .non = fr (l.getD k 0)
  rw [List.getD_eq_getElem?_getD, List.getElem?_map, List.getElem?_eq_getElem this, List.getD_eq_getElem?_getD, List.getElem?_eq_getElem this]; rfl
def IsTurned (f : List T → Cr) : Prop := ∀ (m : List (List Rat)) (c : Nat), m.length ≤ SZ → c ≤ SZ → (∀ r ∈ m, c ≤ r.length) → f [tab m, .int c] = ok0 (tab (turned m c))
theorem turned_is {C : Cn} (hio : C.io = false) : IsTurned (run C 4 Tx.turned_table) := by
  intro m c hl hc hm
  refine run_rt hio (e := [some (tab m), some (.int c), none, none]) ?_
  unfold Tx.turned_table startE
  refine exs_rt ?_
  show ex C _ [some (tab m), some (.int c), none, none] = _
  have h := lc1r (C := C) (a := .var 1) (x := .prim .tuple (.lc [3] (.nm 3) (.seq (.var 0)) .non (.ix 3 (.var 2)))) (i := 2) (e := [some (tab m), some (.int c), none, none]) (fun k => frs (col k m)) (rv_int _ _ _ rfl) (by simp) hio rfl hc fun k hk => by
    have h1 := ev_col hio (x1 := some (.int c)) hl (k := k) fun r hr => Nat.lt_of_lt_of_le hk (hm r hr)
    rw [x_ev_prim]
    show (ev C _ [some (tab m), some (.int c), some (.int k), none]).bind _ = _
    rw [h1, R.bind_ok, prim_tuple (isFs_frs _)]; rfl
  rw [x_ex_ret, x_ev_prim, h, R.bind_ok]
  have e1 : (List.range c).map (fun k => frs (col k m)) = (turned m c).map frs := by unfold turned; rw [List.map_map]; rfl
  rw [e1, prim_tuple (isFs_tab _)]; rfl
def IsColSums (f : List T → Cr) : Prop := ∀ (m : List (List Rat)) (c : Nat), m.length ≤ SZ → c ≤ SZ → (∀ r ∈ m, c ≤ r.length) → (∀ k < c, SumOk (col k m) ∧ ∀ q ∈ col k m, Sm q) → f [tab m, .int c] = ok0 (frs (rowSums (turned m c)))
theorem colsums_is {C : Cn} {s : Nat} (hio : C.io = false) (hs : IsSum (C.call s)) : IsColSums (run C 4 (Tx.column_sums s)) := by
  intro m c hl hc hm hk
  refine run_rt hio (e := [some (tab m), some (.int c), none, none]) ?_
  unfold Tx.column_sums startE
  refine exs_rt ?_
  show ex C _ [some (tab m), some (.int c), none, none] = _
  have h := lc1r (C := C) (a := .var 1) (x := .call s (.cons (.lc [3] (.nm 3) (.seq (.var 0)) .non (.ix 3 (.var 2))) .nil)) (i := 2) (e := [some (tab m), some (.int c), none, none]) (fun k => fr (tot (col k m))) (rv_int _ _ _ rfl) (by simp) hio rfl hc fun k hkc => by
    have h1 := ev_col hio (x1 := some (.int c)) hl (k := k) fun r hr => Nat.lt_of_lt_of_le hkc (hm r hr)
    obtain ⟨s1, s2⟩ := hk k hkc
    have hcall := hs (col k m) (.lst false ((col k m).map fr)) (.inl rfl) s1 s2
    rw [x_ev_call, x_evs_cons]
    show ((ev C _ [some (tab m), some (.int c), some (.int k), none]).bind _).bind _ = _
    rw [h1]
    simp [frzs, frz, hcall]
  rw [x_ex_ret, x_ev_prim, h, R.bind_ok]
  have e1 : (List.range c).map (fun k => fr (tot (col k m))) = (rowSums (turned m c)).map fr := by unfold turned rowSums; rw [List.map_map, List.map_map]; rfl
  rw [e1, prim_tuple (isFs_frs _)]; rfl
end Iv
set_option Elab.async false
set_option linter.all false
set_option maxRecDepth 100000
set_option exponentiation.threshold 20000
namespace Tx
open Iv
def plus_table (p : Nat) : Ss :=
    (.cons (.ret (.prim .tuple (.lc [2, 3] (.tp (.cons (.nm 2) (.cons (.nm 3) .nil))) (.zip (.var 0) (.var 1)) .non (.prim .tuple (.lc [4, 5] (.tp (.cons (.nm 4) (.cons (.nm 5) .nil))) (.zip (.var 2) (.var 3)) .non (.call p (.cons (.var 4) (.cons (.var 5) .nil))))))))
    .nil)
def coupling_of (t : Nat) : Ss :=
    (.cons (.ret (.prim .tuple (.lc [2] (.nm 2) (.rg1 (.primv .len 0)) .non (.prim .tuple (.lc [3] (.nm 3) (.seq (.ix 1 (.var 2))) .non (.call t (.cons (.ix 0 (.var 2)) (.cons (.var 3) .nil))))))))
    .nil)
end Tx
namespace Iv
open PySem
def dot (a b : List Rat) : List Rat := (List.range a.length).map fun k => a.getD k 0 * b.getD k 0
theorem prim_len_frs (l : List Rat) : Iv.prim .len (frs l) = some (.int l.length) := by simp [Iv.prim, frs]
theorem prim_len_tab (l : List (List Rat)) : Iv.prim .len (tab l) = some (.int l.length) := by simp [Iv.prim, tab]
theorem getD_mem {l : List Rat} {k : Nat} (h : k < l.length) : l.getD k 0 ∈ l := by
  rw [List.getD_eq_getElem?_getD, List.getElem?_eq_getElem h]; exact List.getElem_mem h
theorem getDD_mem {l : List (List Rat)} {k : Nat} (h : k < l.length) : l.getD k [] ∈ l := by
  rw [List.getD_eq_getElem?_getD, List.getElem?_eq_getElem h]; exact List.getElem_mem h
def IsDot (f : List T → Cr) : Prop := ∀ a b : List Rat, a.length ≤ SZ → a.length ≤ b.length → (∀ q ∈ a, Sm q) → (∀ q ∈ b, Sm q) → SumOk (dot a b) → (∀ q ∈ dot a b, Sm q) → f [frs a, frs b] = ok0 (fr (tot (dot a b)))
theorem ev_dot {C : Cn} {t : Nat} (hio : C.io = false) (ht : IsTimes (C.call t)) {a b : List Rat} (hl : a.length ≤ SZ) (hab : a.length ≤ b.length) (ha : ∀ q ∈ a, Sm q) (hb : ∀ q ∈ b, Sm q) :
    ev C (.lc [2] (.nm 2) (.rg1 (.primv .len 0)) .non (.call t (.cons (.ix 0 (.var 2)) (.cons (.ix 1 (.var 2)) .nil)))) [some (frs a), some (frs b), none] = .ok (.lst true ((dot a b).map fr)) [some (frs a), some (frs b), none] := by
  have h := lc1r (C := C) (a := .primv .len 0) (x := .call t (.cons (.ix 0 (.var 2)) (.cons (.ix 1 (.var 2)) .nil))) (i := 2) (e := [some (frs a), some (frs b), none]) (fun k => fr (a.getD k 0 * b.getD k 0)) (by simp [gt, prim_len_frs]; rfl) (by simp) hio rfl hl fun k hk => by
    have hk2 : k < b.length := by omega
    have h1 := at_frs hk
    have h2 := at_frs hk2
    have hc := ht _ _ (ha _ (getD_mem hk)) (hb _ (getD_mem hk2))
    simp [has, gt, rv_int, h1, h2, fz_fr, frzs, hc, -List.getD_eq_getElem?_getD]
  rw [h, show (List.range a.length).map (fun k => fr (a.getD k 0 * b.getD k 0)) = (dot a b).map fr by unfold dot; rw [List.map_map]; rfl]
theorem dot_is {C : Cn} {t s : Nat} (hio : C.io = false) (ht : IsTimes (C.call t)) (hs : IsSum (C.call s)) : IsDot (run C 3 (Tx.dot_f t s)) := by
  intro a b hl hab ha hb h1 h2
  refine run_rt hio (e := [some (frs a), some (frs b), none]) ?_
  unfold Tx.dot_f startE
  refine exs_rt ?_
  show ex C _ [some (frs a), some (frs b), none] = _
  have hcall := hs (dot a b) (.lst false ((dot a b).map fr)) (.inl rfl) h1 h2
  rw [x_ex_ret, x_ev_call, x_evs_cons, ev_dot hio ht hl hab ha hb]
  simp [frzs, frz, hcall]
def dots (m n : List (List Rat)) : List Rat := (List.range m.length).map fun k => tot (dot (m.getD k []) (n.getD k []))
def IsDotT (f : List T → Cr) : Prop := ∀ m n : List (List Rat), m.length ≤ SZ → m.length ≤ n.length → (∀ k < m.length, (m.getD k []).length ≤ SZ ∧ (m.getD k []).length ≤ (n.getD k []).length ∧ (∀ q ∈ m.getD k [], Sm q) ∧ (∀ q ∈ n.getD k [], Sm q) ∧ SumOk (dot (m.getD k []) (n.getD k [])) ∧ (∀ q ∈ dot (m.getD k []) (n.getD k []), Sm q)) →
  SumOk (dots m n) → (∀ q ∈ dots m n, Sm q) → f [tab m, tab n] = ok0 (fr (tot (dots m n)))
theorem dott_is {C : Cn} {d s : Nat} (hio : C.io = false) (hd : IsDot (C.call d)) (hs : IsSum (C.call s)) : IsDotT (run C 3 (Tx.dot_table d s)) := by
  intro m n hl hmn hk h1 h2
  refine run_rt hio (e := [some (tab m), some (tab n), none]) ?_
  unfold Tx.dot_table startE
  refine exs_rt ?_
  show ex C _ [some (tab m), some (tab n), none] = _
  have hcall := hs (dots m n) (.lst false ((dots m n).map fr)) (.inl rfl) h1 h2
  have h := lc1r (C := C) (a := .primv .len 0) (x := .call d (.cons (.ix 0 (.var 2)) (.cons (.ix 1 (.var 2)) .nil))) (i := 2) (e := [some (tab m), some (tab n), none]) (fun k => fr (tot (dot (m.getD k []) (n.getD k [])))) (by simp [gt, prim_len_tab]; rfl) (by simp) hio rfl hl fun k hkm => by
    have a1 := at_tab hkm
    have a2 := at_tab (m := n) (k := k) (by omega)
    obtain ⟨k1, k2, k3, k4, k5, k6⟩ := hk k hkm
    have hc := hd _ _ k1 k2 k3 k4 k5 k6
    simp [has, gt, rv_int, a1, a2, fz_frs, frzs, hc, -List.getD_eq_getElem?_getD]
  have e1 : (List.range m.length).map (fun k => fr (tot (dot (m.getD k []) (n.getD k [])))) = (dots m n).map fr := by unfold dots; rw [List.map_map]; rfl
  rw [x_ex_ret, x_ev_call, x_evs_cons, h, e1]
  simp [frzs, frz, hcall]
/-! ### kernels -/
def plainK (n : Nat) : List (List Rat) := (List.range n).map fun j => (List.range n).map fun k => if j = k then 1 else 0
def IsPlain (f : List T → Cr) : Prop := ∀ n : Nat, n ≤ SZ → f [.int n] = ok0 (tab (plainK n))
theorem fr1 : fr 1 = .tup [.int 1, .int 1] := rfl
theorem fr0 : fr 0 = .tup [.int 0, .int 1] := rfl
theorem plain_is {C : Cn} (hio : C.io = false) : IsPlain (run C 3 Tx.plain_kernel) := by
  intro n hn
  refine run_rt hio (e := [some (.int n), none, none]) ?_
  unfold Tx.plain_kernel startE
  refine exs_rt ?_
  show ex C _ [some (.int n), none, none] = _
  have h := lc1r (C := C) (a := .var 0) (x := .prim .tuple (.lc [2] (.nm 2) (.rg1 (.var 0)) .non (.ife (.cmpL .eq 1 (.var 2)) (.tup (.cons (.int 1) (.cons (.int 1) .nil))) (.tup (.cons (.int 0) (.cons (.int 1) .nil)))))) (i := 1) (e := [some (.int n), none, none]) (fun j => frs ((List.range n).map fun k => if j = k then (1 : Rat) else 0)) (rv_int _ _ _ rfl) (by simp) hio rfl hn fun j hj => by
    have h2 := lc1r (C := C) (a := .var 0) (x := .ife (.cmpL .eq 1 (.var 2)) (.tup (.cons (.int 1) (.cons (.int 1) .nil))) (.tup (.cons (.int 0) (.cons (.int 1) .nil)))) (i := 2) (e := [some (.int n), some (.int j), none]) (fun k => fr (if j = k then (1 : Rat) else 0)) (rv_int _ _ _ rfl) (by simp) hio rfl hn fun k hk => by
      have hc : cmp .eq (.int j) (.int k) = some (decide (j = k)) := by
        rw [cmpEq rfl rfl, eqT_int, Bool.beq_eq_decide_eq]
        congr 1
        rw [decide_eq_decide]; omega
      by_cases hjk : j = k
      · subst hjk
        simp [has, gt, rv_int, hc, boolR, fr1]
      · simp [has, gt, rv_int, hc, boolR, fr0, hjk]
    have e2 : (List.range n).map (fun k => fr (if j = k then (1 : Rat) else 0)) = ((List.range n).map fun k => if j = k then (1 : Rat) else 0).map fr := by rw [List.map_map]; rfl
    rw [x_ev_prim]
    show (ev C _ [some (.int n), some (.int j), none]).bind _ = _
    rw [h2, R.bind_ok, e2, prim_tuple (isFs_frs _)]; rfl
  rw [x_ex_ret, x_ev_prim, h, R.bind_ok]
  have e1 : (List.range n).map (fun j => frs ((List.range n).map fun k => if j = k then (1 : Rat) else 0)) = (plainK n).map frs := by unfold plainK; rw [List.map_map]; rfl
  rw [e1, prim_tuple (isFs_tab _)]; rfl
def evenK (n : Nat) : List (List Rat) := (List.range n).map fun _ => List.replicate n (Rat.divInt 1 n)
def IsEven (f : List T → Cr) : Prop := ∀ n : Nat, 0 < n → n ≤ 1000 → f [.int n] = ok0 (tab (evenK n))
theorem lt_pow {n : Nat} (k : Nat) (hn : n ≤ 1000) (hk : 10 ≤ k) : n < 2 ^ k := Nat.lt_of_le_of_lt hn (Nat.lt_of_lt_of_le (by decide : 1000 < 2 ^ 10) (Nat.pow_le_pow_right (by omega) hk))
theorem made_nat {f : List T → Cr} (hm : IsMade f) {a b : Nat} (h0 : b ≠ 0) (ha : a ≤ 1000) (hb : b ≤ 1000) : f [.int a, .int b] = ok0 (fr (Rat.divInt a b)) := hm a b (by omega) (by rw [Int.natAbs_natCast]; exact lt_pow _ ha (by omega)) (by rw [Int.natAbs_natCast]; exact lt_pow _ hb (by omega))
theorem bin_rep (t : T) (ht : isF t = true) {n : Nat} (hn : n ≤ 1000) : bin .mul (.lst true [t]) (.int n) = some (.lst true (List.replicate n t)) := by
  have h1 : -(2 ^ 63) ≤ (n : Int) := by omega
  have h2 : (n : Int) < 2 ^ 63 := by omega
  have h3 : [t].length * (n : Int).toNat ≤ SZ := by have : SZ = 16777216 := rfl; simp; omega
  have h4 : isFs [t] = true := by simp [isFs, ht]
  have hc1 : (isFs [t] && decide (-(2 ^ 63) ≤ (n : Int)) && decide ((n : Int) < 2 ^ 63) && decide ([t].length * (n : Int).toNat ≤ SZ)) = true := by
    rw [h4, decide_eq_true h1, decide_eq_true h2, decide_eq_true h3]; rfl
  unfold bin
  simp only [hc1, if_true]
  unfold repl
  congr 2
  rw [Int.toNat_natCast]
  clear hn h1 h2 h3 hc1
  induction n with
  | zero => rfl
  | succ k ih => simp [List.replicate_succ, ih]
theorem even_is {C : Cn} {m : Nat} (hio : C.io = false) (hm : IsMade (C.call m)) : IsEven (run C 2 (Tx.even_kernel m)) := by
  intro n h0 hn
  refine run_rt hio (e := [some (.int n), none]) ?_
  unfold Tx.even_kernel startE
  refine exs_rt ?_
  show ex C _ [some (.int n), none] = _
  have h := lc1r (C := C) (a := .var 0) (x := .prim .tuple (.bin .mul (.lst (.cons (.call m (.cons (.int 1) (.cons (.var 0) .nil))) .nil)) (.var 0))) (i := 1) (e := [some (.int n), none]) (fun j => frs (List.replicate n (Rat.divInt 1 n))) (rv_int _ _ _ rfl) (by simp) hio rfl (by have : SZ = 16777216 := rfl; omega) fun j hj => by
    have hc := made_nat hm (a := 1) (b := n) (by omega) (by omega) hn
    rw [Int.natCast_one] at hc
    have hb := bin_rep (fr (Rat.divInt 1 n)) rfl hn
    rw [x_ev_prim]
    have hx : ev C (.bin .mul (.lst (.cons (.call m (.cons (.int 1) (.cons (.var 0) .nil))) .nil)) (.var 0)) [some (.int n), some (.int j)] = .ok (.lst true (List.replicate n (fr (Rat.divInt 1 n)))) [some (.int n), some (.int j)] := by
      have hl : ev C (.lst (.cons (.call m (.cons (.int 1) (.cons (.var 0) .nil))) .nil)) [some (.int n), some (.int j)] = .ok (.lst true [fr (Rat.divInt 1 n)]) [some (.int n), some (.int j)] := by
        generalize Rat.divInt 1 n = d at *
        simp [rv_int, gt, frzs, frz, hc]
      rw [x_ev_bin, hl, R.bind_ok, x_ev_var, rv_int (n := n) (h := rfl), R.bind_ok, hb]; rfl
    show (ev C _ [some (.int n), some (.int j)]).bind _ = _
    rw [hx, R.bind_ok, ← List.map_replicate (f := fr), prim_tuple (isFs_map fun _ _ => rfl)]; rfl
  rw [x_ex_ret, x_ev_prim, h, R.bind_ok]
  have e1 : (List.range n).map (fun _ => frs (List.replicate n (Rat.divInt 1 n))) = (evenK n).map frs := by unfold evenK; rw [List.map_map]; rfl
  rw [e1, prim_tuple (isFs_tab _)]; rfl
end Iv
set_option Elab.async false
set_option linter.all false
set_option maxRecDepth 100000
set_option exponentiation.threshold 20000
namespace Tx
open Iv
def times_table (t s : Nat) : Ss :=
    (.cons (.asg (.nm 2) (.ife (.cmpL .ne 1 (.tup .nil)) (.prim .len (.ix 1 (.int 0))) (.int 0)))
    (.cons (.asg (.nm 3) (.lst .nil))
    (.cons (.for (.nm 4) (.seq (.var 0)) (.cons (.app 3 (.prim .tuple (.lc [5] (.nm 5) (.rg1 (.var 2)) .non (.call s (.cons (.lc [6] (.nm 6) (.rg1 (.primv .len 4)) .non (.call t (.cons (.ix 4 (.var 6)) (.cons (.idx (.ix 1 (.var 6)) (.var 5)) .nil)))) .nil)))))
    .nil))
    (.cons (.ret (.primv .tuple 3))
    .nil))))
def times_row (p : Nat) : Ss :=
    (.cons (.ret (.idx (.call p (.cons (.tup (.cons (.var 0) .nil)) (.cons (.var 1) .nil))) (.int 0)))
    .nil)
def kernel_power (i p : Nat) : Ss :=
    (.cons (.asg (.nm 2) (.call i (.cons (.primv .len 0) .nil)))
    (.cons (.for (.nm 3) (.rg1 (.var 1)) (.cons (.asg (.nm 2) (.call p (.cons (.var 2) (.cons (.var 0) .nil))))
    .nil))
    (.cons (.ret (.mov 2))
    .nil)))
end Tx
namespace Iv
open PySem
theorem soks_map {α : Type} {f : α → T} {l : List α} (h : ∀ a ∈ l, sok (f a) = true) : soks (l.map f) = true := by
  induction l with
  | nil => rfl
  | cons a l ih => rw [List.map_cons, soks, h a List.mem_cons_self, ih fun b hb => h b (List.mem_cons_of_mem _ hb)]; rfl
theorem deps_map {α : Type} {f : α → T} {l : List α} {k : Nat} (h : ∀ a ∈ l, dep (f a) ≤ k) : deps (l.map f) ≤ k := by
  induction l with
  | nil => exact Nat.zero_le _
  | cons a l ih => rw [List.map_cons, deps]; exact Nat.max_le.mpr ⟨h a List.mem_cons_self, ih fun b hb => h b (List.mem_cons_of_mem _ hb)⟩
theorem sok_fr (q : Rat) : sok (fr q) = true := rfl
theorem dep_fr (q : Rat) : dep (fr q) ≤ 1 := Nat.le_refl _
theorem sok_frs (l : List Rat) : sok (frs l) = true := soks_map fun q _ => sok_fr q
theorem dep_frs (l : List Rat) : dep (frs l) ≤ 2 := Nat.succ_le_succ (deps_map fun q _ => dep_fr q)
theorem sok_tab (m : List (List Rat)) : sok (tab m) = true := soks_map fun l _ => sok_frs l
theorem dep_tab (m : List (List Rat)) : dep (tab m) ≤ 3 := Nat.succ_le_succ (deps_map fun l _ => dep_frs l)
theorem shp_fr (q : Rat) : shp (fr q) = true := by unfold shp; rw [sok_fr, decide_eq_true (Nat.le_trans (dep_fr q) (by decide))]; rfl
theorem shp_frs (l : List Rat) : shp (frs l) = true := by unfold shp; rw [sok_frs, decide_eq_true (Nat.le_trans (dep_frs l) (by decide))]; rfl
theorem shp_tab (m : List (List Rat)) : shp (tab m) = true := by unfold shp; rw [sok_tab, decide_eq_true (Nat.le_trans (dep_tab m) (by decide))]; rfl
theorem eqTs_map {α : Type} {f : α → T} (hf : ∀ a b, eqT (f a) (f b) = true ↔ a = b) : ∀ l m : List α, eqTs (l.map f) (m.map f) = true ↔ l = m
  | [], [] => by simp [eqTs]
  | [], _ :: _ => by simp [eqTs]
  | _ :: _, [] => by simp [eqTs]
  | a :: l, b :: m => by
    rw [List.map_cons, List.map_cons, eqTs, Bool.and_eq_true, hf, eqTs_map hf l m, List.cons.injEq]
theorem eqT_frq (p q : Rat) : eqT (fr p) (fr q) = true ↔ p = q := by
  unfold fr
  rw [eqT, eqTs, eqTs, eqTs, eqT_int, eqT_int, Bool.and_true, Bool.and_eq_true, beq_iff_eq, beq_iff_eq]
  exact ⟨fun h => Rat.ext h.1 (by omega), fun h => by rw [h]; exact ⟨rfl, rfl⟩⟩
theorem eqT_frs (l m : List Rat) : eqT (frs l) (frs m) = true ↔ l = m := eqTs_map eqT_frq l m
theorem eqT_tab (l m : List (List Rat)) : eqT (tab l) (tab m) = true ↔ l = m := eqTs_map eqT_frs l m
/-- a table of a rows and b columns -/
def Shp (a b : Nat) (m : List (List Rat)) : Prop := m.length = a ∧ ∀ r ∈ m, r.length = b
def TW (k : Nat) (m : List (List Rat)) : Prop := ∀ r ∈ m, ∀ q ∈ r, Wt k q
theorem TW.mono {j k : Nat} {m : List (List Rat)} (h : TW j m) (hk : j ≤ k) : TW k m := fun r hr q hq => (h r hr q hq).mono hk
/-- a row times a table -/
def rowT (r : List Rat) (n : List (List Rat)) (c : Nat) : List Rat := (List.range c).map fun j => tot (dot r (col j n))
def prod (m n : List (List Rat)) (c : Nat) : List (List Rat) := m.map fun r => rowT r n c
theorem rowT_len (r : List Rat) (n : List (List Rat)) (c : Nat) : (rowT r n c).length = c := by simp [rowT]
theorem Shp.prod {a b c : Nat} {m n : List (List Rat)} (h : Shp a b m) : Shp a c (prod m n c) := by
  refine ⟨by simp [Iv.prod, h.1], fun r hr => ?_⟩
  obtain ⟨l, _, rfl⟩ := List.mem_map.mp hr
  exact rowT_len _ _ _
theorem col_len (k : Nat) (m : List (List Rat)) : (col k m).length = m.length := by simp [col]
theorem Shp.row {a b : Nat} {m : List (List Rat)} (h : Shp a b m) {i : Nat} (hi : i < a) : (m.getD i []).length = b := h.2 _ (getDD_mem (by rw [h.1]; exact hi))
theorem TW.row {k a b : Nat} {m : List (List Rat)} (h : TW k m) (hs : Shp a b m) {i : Nat} (hi : i < a) : ∀ q ∈ m.getD i [], Wt k q := h _ (getDD_mem (by rw [hs.1]; exact hi))
theorem TW.at {k a b : Nat} {m : List (List Rat)} (h : TW k m) (hs : Shp a b m) {i j : Nat} (hi : i < a) (hj : j < b) : Wt k ((m.getD i []).getD j 0) := h.row hs hi _ (getD_mem (by rw [hs.row hi]; exact hj))
theorem TW.col {k a b : Nat} {m : List (List Rat)} (h : TW k m) (hs : Shp a b m) {j : Nat} (hj : j < b) : ∀ q ∈ col j m, Wt k q := by
  intro q hq
  obtain ⟨r, hr, rfl⟩ := List.mem_map.mp hq
  exact h r hr _ (getD_mem (by rw [hs.2 r hr]; exact hj))
theorem dot_len (a b : List Rat) : (dot a b).length = a.length := by simp [dot]
theorem dot_wt {a b : List Rat} {k l : Nat} (hab : a.length ≤ b.length) (ha : ∀ q ∈ a, Wt k q) (hb : ∀ q ∈ b, Wt l q) : ∀ q ∈ dot a b, Wt (k + l) q := by
  intro q hq
  obtain ⟨i, hi, rfl⟩ := List.mem_map.mp hq
  have hi := List.mem_range.mp hi
  exact (ha _ (getD_mem hi)).mul (hb _ (getD_mem (by omega)))
theorem col_at {j i : Nat} {n : List (List Rat)} (h : i < n.length) : (col j n).getD i 0 = (n.getD i []).getD j 0 := by
  unfold col
  rw [List.getD_eq_getElem?_getD, List.getElem?_map, List.getElem?_eq_getElem h, List.getD_eq_getElem?_getD (l := n), List.getElem?_eq_getElem h]; rfl
theorem rowT_wt {r : List Rat} {n : List (List Rat)} {k l b c : Nat} (hr : ∀ q ∈ r, Wt k q) (hb : r.length = b) (hn : TW l n) (hs : Shp b c n) : ∀ q ∈ rowT r n c, Wt (1 + b * (k + l + 1)) q := by
  intro q hq
  obtain ⟨j, hj, rfl⟩ := List.mem_map.mp hq
  have hj := List.mem_range.mp hj
  have h := Wt.tot (dot_wt (a := r) (b := col j n) (by rw [col_len, hb, hs.1]; exact Nat.le_refl _) hr (hn.col hs hj))
  rw [dot_len, hb] at h
  exact h
theorem prod_wt {m n : List (List Rat)} {k l a b c : Nat} (hm : TW k m) (hsm : Shp a b m) (hn : TW l n) (hs : Shp b c n) : TW (1 + b * (k + l + 1)) (prod m n c) := by
  intro r hr
  obtain ⟨r', hr', rfl⟩ := List.mem_map.mp hr
  exact rowT_wt (hm r' hr') (hsm.2 r' hr') hn hs
def IsTT (f : List T → Cr) : Prop := ∀ (a b c k l : Nat) (m n : List (List Rat)), Shp a b m → Shp b c n → TW k m → TW l n → 1 + b * (k + l + 1) ≤ 4000 → a ≤ 1000 → 0 < b → b ≤ 1000 → c ≤ 1000 → f [tab m, tab n] = ok0 (tab (prod m n c))
theorem tt_cell {C : Cn} {t : Nat} (hio : C.io = false) (ht : IsTimes (C.call t)) {b c k l : Nat} {r : List Rat} {n : List (List Rat)} {x0 x2 x3 : Option T} {j : Nat} (hb : b ≤ 1000) (hr : r.length = b) (hn : Shp b c n) (hk : ∀ q ∈ r, Wt k q) (hl : TW l n) (hkl : k + l ≤ 4000) (hj : j < c) :
    ev C (.lc [6] (.nm 6) (.rg1 (.primv .len 4)) .non (.call t (.cons (.ix 4 (.var 6)) (.cons (.idx (.ix 1 (.var 6)) (.var 5)) .nil)))) [x0, some (tab n), x2, x3, some (frs r), some (.int j), none] = .ok (.lst true ((dot r (col j n)).map fr)) [x0, some (tab n), x2, x3, some (frs r), some (.int j), none] := by
  have h := lc1r (C := C) (a := .primv .len 4) (x := .call t (.cons (.ix 4 (.var 6)) (.cons (.idx (.ix 1 (.var 6)) (.var 5)) .nil))) (i := 6) (e := [x0, some (tab n), x2, x3, some (frs r), some (.int j), none]) (n := r.length) (e0 := [x0, some (tab n), x2, x3, some (frs r), some (.int j), none]) (fun i => fr (r.getD i 0 * (col j n).getD i 0)) (by simp [gt, prim_len_frs]) (by simp) hio rfl (by have : SZ = 16777216 := rfl; omega) fun i hi => by
    have hib : i < b := by omega
    have h1 := at_frs hi
    have h2 := at_tab (m := n) (k := i) (by rw [hn.1]; exact hib)
    have h3 := at_frs (l := n.getD i []) (k := j) (by rw [hn.row hib]; exact hj)
    have w2 := hl.at hn hib hj
    have w1 := hk _ (getD_mem hi)
    have hc := ht _ _ (w1.mono (by omega)) (w2.mono (by omega))
    rw [col_at (by rw [hn.1]; exact hib)]
    generalize r.getD i 0 = p at *
    generalize (n.getD i []).getD j 0 = q at *
    generalize p * q = d at *
    simp [has, gt, rv_int, h1, h2, h3, fz_fr, fz_frs, frzs, hc, -List.getD_eq_getElem?_getD]
  rw [h, show (List.range r.length).map (fun i => fr (r.getD i 0 * (col j n).getD i 0)) = (dot r (col j n)).map fr by unfold dot; rw [List.map_map]; rfl]
theorem tt_row {C : Cn} {t s : Nat} (hio : C.io = false) (ht : IsTimes (C.call t)) (hs : IsSum (C.call s)) {b c k l : Nat} {r : List Rat} {n : List (List Rat)} {x0 x3 : Option T} (hb : b ≤ 1000) (hc1 : c ≤ 1000) (hr : r.length = b) (hn : Shp b c n) (hk : ∀ q ∈ r, Wt k q) (hl : TW l n) (hkl : 1 + b * (k + l + 1) ≤ 4000) (hkl2 : k + l ≤ 4000) :
    ev C (.prim .tuple (.lc [5] (.nm 5) (.rg1 (.var 2)) .non (.call s (.cons (.lc [6] (.nm 6) (.rg1 (.primv .len 4)) .non (.call t (.cons (.ix 4 (.var 6)) (.cons (.idx (.ix 1 (.var 6)) (.var 5)) .nil)))) .nil)))) [x0, some (tab n), some (.int c), x3, some (frs r), none, none] = .ok (frs (rowT r n c)) [x0, some (tab n), some (.int c), x3, some (frs r), none, none] := by
  have h := lc1r (C := C) (a := .var 2) (x := .call s (.cons (.lc [6] (.nm 6) (.rg1 (.primv .len 4)) .non (.call t (.cons (.ix 4 (.var 6)) (.cons (.idx (.ix 1 (.var 6)) (.var 5)) .nil)))) .nil)) (i := 5) (e := [x0, some (tab n), some (.int c), x3, some (frs r), none, none]) (fun j => fr (tot (dot r (col j n)))) (rv_int _ _ _ rfl) (by simp) hio rfl (by have : SZ = 16777216 := rfl; omega) fun j hj => by
    have h1 := tt_cell hio ht (x0 := x0) (x2 := some (.int c)) (x3 := x3) hb hr hn hk hl hkl2 hj
    obtain ⟨s1, s2⟩ := SumOk.of (dot_wt (a := r) (b := col j n) (by rw [col_len, hr, hn.1]; exact Nat.le_refl _) hk (hl.col hn hj)) (by rw [dot_len, hr]; exact hkl)
    have hcall := hs (dot r (col j n)) (.lst false ((dot r (col j n)).map fr)) (.inl rfl) s1 s2
    rw [x_ev_call, x_evs_cons]
    show ((ev C _ [x0, some (tab n), some (.int c), x3, some (frs r), some (.int j), none]).bind _).bind _ = _
    rw [h1]
    simp [frzs, frz, hcall]
  have e1 : (List.range c).map (fun j => fr (tot (dot r (col j n)))) = (rowT r n c).map fr := by unfold rowT; rw [List.map_map]; rfl
  rw [x_ev_prim, h, R.bind_ok, e1, prim_tuple (isFs_frs _)]; rfl
theorem tt_loop {C : Cn} {t s : Nat} (hio : C.io = false) (ht : IsTimes (C.call t)) (hs : IsSum (C.call s)) {b c k l : Nat} {n : List (List Rat)} {x0 : Option T} (hb : b ≤ 1000) (hc1 : c ≤ 1000) (hn : Shp b c n) (hl : TW l n) (hkl : 1 + b * (k + l + 1) ≤ 4000) (hkl2 : k + l ≤ 4000) : ∀ (m : List (List Rat)) (f : List (List Rat)) (x : Option T), (∀ r ∈ m, r.length = b) → TW k m → f.length + m.length ≤ 1000 →
    ∃ x', forLoop (fun x e => (asgTg C (.nm 4) x e).bind fun _ e => exs C (.cons (.app 3 (.prim .tuple (.lc [5] (.nm 5) (.rg1 (.var 2)) .non (.call s (.cons (.lc [6] (.nm 6) (.rg1 (.primv .len 4)) .non (.call t (.cons (.ix 4 (.var 6)) (.cons (.idx (.ix 1 (.var 6)) (.var 5)) .nil)))) .nil))))) .nil) e) (m.map frs) [x0, some (tab n), some (.int c), some (.lst true (f.map frs)), x, none, none] = .ok .nx [x0, some (tab n), some (.int c), some (.lst true ((f ++ prod m n c).map frs)), x', none, none]
  | [], f, x, _, _, _ => ⟨x, by simp [forLoop, prod]⟩
  | r :: m, f, x, h1, h2, h3 => by
    have hrow := tt_row (x0 := x0) (x3 := some (.lst true (f.map frs))) hio ht hs hb hc1 (h1 r List.mem_cons_self) hn (h2 r List.mem_cons_self) hl hkl hkl2
    rw [List.length_cons] at h3
    obtain ⟨x', hx⟩ := tt_loop hio ht hs (x0 := x0) hb hc1 hn hl hkl hkl2 m (f ++ [rowT r n c]) (some (frs r)) (fun r' hr => h1 r' (List.mem_cons_of_mem _ hr)) (fun r' hr => h2 r' (List.mem_cons_of_mem _ hr)) (by rw [List.length_append, List.length_singleton]; omega)
    refine ⟨x', ?_⟩
    have hsz : (f.map frs).length < SZ := by have : SZ = 16777216 := rfl; rw [List.length_map]; omega
    rw [List.map_cons, for_nx (e1 := [x0, some (tab n), some (.int c), some (.lst true ((f ++ [rowT r n c]).map frs)), some (frs r), none, none]), hx, List.append_assoc]
    · rfl
    · rw [show asgTg C (.nm 4) (frs r) [x0, some (tab n), some (.int c), some (.lst true (f.map frs)), x, none, none] = .ok () [x0, some (tab n), some (.int c), some (.lst true (f.map frs)), some (frs r), none, none] by simp [setNm, hio], R.bind_ok]
      rw [exs_nx (e1 := [x0, some (tab n), some (.int c), some (.lst true ((f ++ [rowT r n c]).map frs)), some (frs r), none, none])]
      · simp
      · rw [x_ex_app, hrow]
        have e1 : (f.map frs) ++ [frs (rowT r n c)] = (f ++ [rowT r n c]).map frs := by rw [List.map_append]; rfl
        show (if (f.map frs).length < SZ then R.ok Fl.nx [x0, some (tab n), some (.int c), some (.lst true ((f.map frs) ++ [frs (rowT r n c)])), some (frs r), none, none] else .bad) = _
        rw [if_pos hsz, e1]
theorem ttable_is {C : Cn} {t s : Nat} (hio : C.io = false) (ht : IsTimes (C.call t)) (hs : IsSum (C.call s)) : IsTT (run C 7 (Tx.times_table t s)) := by
  intro a b c k l m n hsm hsn hk hl hkl ha hb0 hb hc
  have hkl2 : k + l ≤ 4000 := by
    have : 1 * (k + l + 1) ≤ b * (k + l + 1) := Nat.mul_le_mul_right _ hb0
    omega
  obtain ⟨x', hx⟩ := tt_loop (x0 := some (tab m)) hio ht hs hb hc hsn hl hkl hkl2 m [] none hsm.2 hk (by rw [hsm.1]; simpa using ha)
  refine run_rt hio (e := [some (tab m), some (tab n), some (.int c), some (.lst true ((prod m n c).map frs)), x', none, none]) ?_
  unfold Tx.times_table startE
  have hne : cmp .ne (tab n) (.tup []) = some true := by
    rw [cmpNe (shp_tab n) rfl]
    obtain ⟨h, _⟩ := hsn
    cases n with
    | nil => rw [List.length_nil] at h; omega
    | cons r n => rfl
  have h0 : at_ (tab n) (.int 0) = some (frs (n.getD 0 [])) := at_tab (m := n) (k := 0) (by rw [hsn.1]; exact hb0)
  have hl0 : Iv.prim .len (frs (n.getD 0 [])) = some (.int c) := by rw [prim_len_frs, hsn.row hb0]
  have ha1 : ex C (.asg (.nm 2) (.ife (.cmpL .ne 1 (.tup .nil)) (.prim .len (.ix 1 (.int 0))) (.int 0))) [some (tab m), some (tab n), none, none, none, none, none] = .ok .nx [some (tab m), some (tab n), some (.int c), none, none, none, none] := by
    generalize n.getD 0 [] = r0 at *
    simp [has, gt, hne, boolR, h0, fz_frs, hl0, setNm, hio]
  show exs C _ [some (tab m), some (tab n), none, none, none, none, none] = _
  have ha2 : ex C (.asg (.nm 3) (.lst .nil)) [some (tab m), some (tab n), some (.int c), none, none, none, none] = .ok .nx [some (tab m), some (tab n), some (.int c), some (.lst true []), none, none, none] := by
    simp [setNm, hio, frzs]
  rw [List.map_nil, List.nil_append] at hx
  rw [exs_nx ha1, exs_nx ha2, exs_nx (ex_for (its := m.map frs) (srs_var (C := C) (j := 0) rfl (isF_tab m) rfl) hx)]
  refine exs_rt ?_
  have hp : Iv.prim .tuple (.lst true ((prod m n c).map frs)) = some (tab (prod m n c)) := prim_tuple (isFs_tab _)
  simp [gt, hp]
end Iv
set_option Elab.async false
set_option linter.all false
set_option maxRecDepth 100000
set_option exponentiation.threshold 20000
namespace Iv
open PySem
def IsTR (f : List T → Cr) : Prop := ∀ (b c k l : Nat) (r : List Rat) (n : List (List Rat)), r.length = b → Shp b c n → (∀ q ∈ r, Wt k q) → TW l n → 1 + b * (k + l + 1) ≤ 4000 → 0 < b → b ≤ 1000 → c ≤ 1000 → f [frs r, tab n] = ok0 (frs (rowT r n c))
theorem trow_is {C : Cn} {p : Nat} (hio : C.io = false) (hp : IsTT (C.call p)) : IsTR (run C 2 (Tx.times_row p)) := by
  intro b c k l r n hr hn hk hl hkl h0 hb hc
  refine run_rt hio (e := [some (frs r), some (tab n)]) ?_
  unfold Tx.times_row startE
  refine exs_rt ?_
  show ex C _ [some (frs r), some (tab n)] = _
  have hcall := hp 1 b c k l [r] n ⟨rfl, fun r' hr' => by rw [List.mem_singleton.mp hr']; exact hr⟩ hn (fun r' hr' => by rw [List.mem_singleton.mp hr']; exact hk) hl hkl (by omega) h0 hb hc
  have e1 : tab [r] = .tup [frs r] := rfl
  have e2 : tab (prod [r] n c) = .tup [frs (rowT r n c)] := rfl
  rw [e1, e2] at hcall
  have h1 : at_ (.tup [frs (rowT r n c)]) (.int 0) = some (frs (rowT r n c)) := rfl
  have r0 : readV [some (frs r), some (tab n)] 0 = .ok (frs r) [some (frs r), some (tab n)] := by simp [readV, gt]
  have r1 : readV [some (frs r), some (tab n)] 1 = .ok (tab n) [some (frs r), some (tab n)] := by simp [readV, gt]
  have e3 : frzs [frs r] = [frs r] := by simp [frzs]
  have e4 : frzs [.tup [frs r], tab n] = [.tup [frs r], tab n] := by simp [frzs, frz]
  simp [r0, r1, e3, e4, hcall, h1, fz_frs]
/-! ### powers -/
def kpw (K : List (List Rat)) (n : Nat) : Nat → List (List Rat)
  | 0 => plainK n
  | t + 1 => prod (kpw K n t) K n
def pww (n k : Nat) : Nat → Nat
  | 0 => 1
  | t + 1 => 1 + n * (pww n k t + k + 1)
theorem Wt.one : Wt 1 1 := ⟨by decide, by decide⟩
theorem Wt.zero : Wt 1 0 := ⟨by decide, by decide⟩
theorem plain_shp (n : Nat) : Shp n n (plainK n) := by
  refine ⟨by simp [plainK], fun r hr => ?_⟩
  obtain ⟨j, _, rfl⟩ := List.mem_map.mp hr
  simp
theorem plain_wt (n : Nat) : TW 1 (plainK n) := by
  intro r hr q hq
  obtain ⟨j, _, rfl⟩ := List.mem_map.mp hr
  obtain ⟨k, _, rfl⟩ := List.mem_map.mp hq
  split
  · exact Wt.one
  · exact Wt.zero
theorem kpw_shp {K : List (List Rat)} {n : Nat} : ∀ t, Shp n n (kpw K n t)
  | 0 => plain_shp n
  | t + 1 => (kpw_shp t).prod
theorem kpw_wt {K : List (List Rat)} {n k : Nat} (hK : Shp n n K) (hk : TW k K) : ∀ t, TW (pww n k t) (kpw K n t)
  | 0 => plain_wt n
  | t + 1 => prod_wt (kpw_wt hK hk t) (kpw_shp t) hk hK
theorem pww_succ {n k : Nat} (h0 : 0 < n) (t : Nat) : pww n k t + 1 ≤ pww n k (t + 1) := by
  have : 1 * (pww n k t + k + 1) ≤ n * (pww n k t + k + 1) := Nat.mul_le_mul_right _ h0
  show _ ≤ 1 + n * (pww n k t + k + 1)
  omega
theorem pww_mono {n k : Nat} (h0 : 0 < n) {s : Nat} : ∀ {t : Nat}, s ≤ t → pww n k s + (t - s) ≤ pww n k t
  | 0, h => by rw [Nat.le_zero.mp h]; exact Nat.le_refl _
  | t + 1, h => by
    rcases Nat.lt_or_ge t s with g | g
    · rw [show s = t + 1 by omega]; omega
    · have := pww_mono (k := k) h0 g
      have := pww_succ (k := k) h0 t
      omega
def IsKP (f : List T → Cr) : Prop := ∀ (n k t : Nat) (K : List (List Rat)), Shp n n K → TW k K → 0 < n → n ≤ 1000 → pww n k t ≤ 4000 → f [tab K, .int t] = ok0 (tab (kpw K n t))
theorem kp_loop {C : Cn} {p : Nat} (hio : C.io = false) (hp : IsTT (C.call p)) {n k t : Nat} {K : List (List Rat)} (hK : Shp n n K) (hk : TW k K) (h0 : 0 < n) (hn : n ≤ 1000) (hw : pww n k t ≤ 4000) {x1 : Option T} : ∀ (d s : Nat) (x : Option T), s + d = t →
    ∃ x', forLoop (fun x e => (asgTg C (.nm 3) x e).bind fun _ e => exs C (.cons (.asg (.nm 2) (.call p (.cons (.var 2) (.cons (.var 0) .nil)))) .nil) e) ((List.range' s d).map fun k : Nat => T.int k) [some (tab K), x1, some (tab (kpw K n s)), x] = .ok .nx [some (tab K), x1, some (tab (kpw K n t)), x']
  | 0, s, x, h => ⟨x, by rw [← h]; rfl⟩
  | d + 1, s, x, h => by
    have h1 := pww_mono (k := k) h0 (show s + 1 ≤ t by omega)
    have hc := hp n n n (pww n k s) k _ K (kpw_shp s) hK (kpw_wt hK hk s) hk (by show pww n k (s + 1) ≤ 4000; omega) hn h0 hn hn
    obtain ⟨x', hx⟩ := kp_loop hio hp hK hk h0 hn hw (x1 := x1) d (s + 1) (some (.int s)) (by omega)
    refine ⟨x', ?_⟩
    rw [List.range'_succ, List.map_cons, for_nx (e1 := [some (tab K), x1, some (tab (kpw K n (s + 1))), some (.int s)]), hx]
    rw [show asgTg C (.nm 3) (.int s) [some (tab K), x1, some (tab (kpw K n s)), x] = .ok () [some (tab K), x1, some (tab (kpw K n s)), some (.int s)] by simp [setNm, hio], R.bind_ok]
    have e3 : frzs [tab (kpw K n s), tab K] = [tab (kpw K n s), tab K] := by simp [frzs]
    rw [exs_nx (e1 := [some (tab K), x1, some (tab (kpw K n (s + 1))), some (.int s)])]
    · simp
    · have r0 : readV [some (tab K), x1, some (tab (kpw K n s)), some (.int s)] 0 = .ok (tab K) [some (tab K), x1, some (tab (kpw K n s)), some (.int s)] := by simp [readV, gt]
      have r2 : readV [some (tab K), x1, some (tab (kpw K n s)), some (.int s)] 2 = .ok (tab (kpw K n s)) [some (tab K), x1, some (tab (kpw K n s)), some (.int s)] := by simp [readV, gt]
      simp [r0, r2, e3, hc, setNm, hio, kpw]
theorem power_is {C : Cn} {i p : Nat} (hio : C.io = false) (hi : IsPlain (C.call i)) (hp : IsTT (C.call p)) : IsKP (run C 4 (Tx.kernel_power i p)) := by
  intro n k t K hK hk h0 hn hw
  obtain ⟨x', hx⟩ := kp_loop hio hp hK hk h0 hn hw (x1 := some (.int t)) t 0 none (by omega)
  refine run_rt hio (e := [some (tab K), some (.int t), none, x']) ?_
  unfold Tx.kernel_power startE
  have hc := hi n (by have : SZ = 16777216 := rfl; omega)
  have hlen : Iv.prim .len (tab K) = some (.int n) := by rw [prim_len_tab, hK.1]
  show exs C _ [some (tab K), some (.int t), none, none] = _
  have ha : ex C (.asg (.nm 2) (.call i (.cons (.primv .len 0) .nil))) [some (tab K), some (.int t), none, none] = .ok .nx [some (tab K), some (.int t), some (tab (plainK n)), none] := by
    simp [gt, hlen, frzs, frz, hc, setNm, hio]
  have hrg : srs C (.rg1 (.var 1)) [some (tab K), some (.int t), some (tab (plainK n)), none] = .ok ((List.range' 0 t).map fun k : Nat => T.int k) [some (tab K), some (.int t), some (tab (plainK n)), none] := by
    have ht : t ≤ 4000 := by have := pww_mono (k := k) h0 (Nat.zero_le t); omega
    have hr : rangeT 0 (t : Int) = some ((List.range t).map fun k : Nat => T.int k) := by
      unfold rangeT
      have hb : -RGB ≤ 0 ∧ (0 : Int) < RGB ∧ -RGB ≤ (t : Int) ∧ (t : Int) < RGB := by unfold RGB; omega
      rw [if_pos hb]
      simp
    rw [srs, x_ev_var, rv_int _ _ _ rfl, R.bind_ok]
    show R.of (rangeT 0 (t : Int)) _ = _
    rw [hr, List.range_eq_range']; rfl
  rw [exs_nx ha, exs_nx (ex_for hrg hx)]
  refine exs_rt ?_
  simp [moveV, hio, gt]
end Iv
set_option Elab.async false
set_option linter.all false
set_option maxRecDepth 100000
set_option exponentiation.threshold 20000
namespace Iv
open PySem
theorem lcQ {C : Cn} {s : Sr} {x : E} {i : Nat} {e e0 : Env} {l : List Rat} (g : Rat → T) (hs : srs C s e = .ok (l.map fr) e0) (hi : i < e0.length) (hio : C.io = false) (ho : ownOk e0 [i] = true) (hl : l.length ≤ SZ)
    (hx : ∀ q ∈ l, ev C x (e0.set i (some (fr q))) = .ok (g q) (e0.set i (some (fr q)))) : ev C (.lc [i] (.nm i) s .non x) e = .ok (.lst true (l.map g)) e0 := by
  have h := lc1 (C := C) (x := x) (i := i) (fun t => g ((ratOf t).getD 0)) hs hi hio ho (by simpa using hl) fun t ht => by
    obtain ⟨q, hq, rfl⟩ := List.mem_map.mp ht
    rw [hx q hq, ratOf_fr]; rfl
  rw [h, List.map_map]
  congr 2
  refine List.map_congr_left fun q _ => ?_
  show g ((ratOf (fr q)).getD 0) = g q
  rw [ratOf_fr]; rfl
def rowOf : T → List Rat
  | .tup ts => ts.filterMap ratOf
  | _ => []
theorem rowOf_frs (l : List Rat) : rowOf (frs l) = l := fm_frs l
theorem lcT {C : Cn} {s : Sr} {x : E} {i : Nat} {e e0 : Env} {m : List (List Rat)} (g : List Rat → T) (hs : srs C s e = .ok (m.map frs) e0) (hi : i < e0.length) (hio : C.io = false) (ho : ownOk e0 [i] = true) (hl : m.length ≤ SZ)
    (hx : ∀ l ∈ m, ev C x (e0.set i (some (frs l))) = .ok (g l) (e0.set i (some (frs l)))) : ev C (.lc [i] (.nm i) s .non x) e = .ok (.lst true (m.map g)) e0 := by
  have h := lc1 (C := C) (x := x) (i := i) (fun t => g (rowOf t)) hs hi hio ho (by simpa using hl) fun t ht => by
    obtain ⟨q, hq, rfl⟩ := List.mem_map.mp ht
    rw [hx q hq, rowOf_frs]
  rw [h, List.map_map]
  congr 2
  refine List.map_congr_left fun q _ => ?_
  show g (rowOf (frs q)) = g q
  rw [rowOf_frs]
theorem srs_frs {C : Cn} {e : Env} {j : Nat} {l : List Rat} (h : gt e j = some (frs l)) : srs C (.seq (.var j)) e = .ok (l.map fr) e := srs_var h (isF_frs l) rfl
theorem srs_tab {C : Cn} {e : Env} {j : Nat} {m : List (List Rat)} (h : gt e j = some (tab m)) : srs C (.seq (.var j)) e = .ok (m.map frs) e := srs_var h (isF_tab m) rfl
theorem rd_fr {e : Env} {j : Nat} {q : Rat} (h : gt e j = some (fr q)) : readV e j = .ok (fr q) e := by rw [readV, h]; rfl
theorem rd_frs {e : Env} {j : Nat} {l : List Rat} (h : gt e j = some (frs l)) : readV e j = .ok (frs l) e := by
  rw [readV, h]
  show (if isF (frs l) = true then _ else _) = _
  rw [if_pos (isF_frs l)]
theorem rd_tab {e : Env} {j : Nat} {m : List (List Rat)} (h : gt e j = some (tab m)) : readV e j = .ok (tab m) e := by
  rw [readV, h]
  show (if isF (tab m) = true then _ else _) = _
  rw [if_pos (isF_tab m)]
/-- a call with two read slots -/
theorem ev_call2 {C : Cn} {f i j : Nat} {e : Env} {a b t : T} (ha : readV e i = .ok a e) (hb : readV e j = .ok b e) (hf : frzs [a, b] = [a, b]) (h : C.call f [a, b] = ok0 t) : ev C (.call f (.cons (.var i) (.cons (.var j) .nil))) e = .ok t e := by
  rw [x_ev_call, x_evs_cons, x_ev_var, ha, R.bind_ok, x_evs_cons, x_ev_var, hb, R.bind_ok, x_evs_nil, R.bind_ok, R.bind_ok, R.bind_ok, hf, h]; rfl
theorem frzs_frfr (p q : Rat) : frzs [fr p, fr q] = [fr p, fr q] := rfl
/-! ### products of weights -/
def outer (a b : List Rat) : List (List Rat) := a.map fun p => b.map fun q => p * q
def IsOuter (f : List T → Cr) : Prop := ∀ a b : List Rat, a.length ≤ SZ → b.length ≤ SZ → (∀ q ∈ a, Sm q) → (∀ q ∈ b, Sm q) → f [frs a, frs b] = ok0 (tab (outer a b))
theorem apart_is {C : Cn} {t : Nat} (hio : C.io = false) (ht : IsTimes (C.call t)) : IsOuter (run C 4 (Tx.apart_coupling t)) := by
  intro a b ha hb wa wb
  refine run_rt hio (e := [some (frs a), some (frs b), none, none]) ?_
  unfold Tx.apart_coupling startE
  refine exs_rt ?_
  show ex C _ [some (frs a), some (frs b), none, none] = _
  have h := lcQ (C := C) (s := .seq (.var 0)) (x := .prim .tuple (.lc [3] (.nm 3) (.seq (.var 1)) .non (.call t (.cons (.var 2) (.cons (.var 3) .nil))))) (i := 2) (e := [some (frs a), some (frs b), none, none]) (fun p => frs (b.map fun q => p * q)) (srs_frs rfl) (by simp) hio rfl ha fun p hp => by
    have h2 := lcQ (C := C) (s := .seq (.var 1)) (x := .call t (.cons (.var 2) (.cons (.var 3) .nil))) (i := 3) (e := [some (frs a), some (frs b), some (fr p), none]) (fun q => fr (p * q)) (srs_frs rfl) (by simp) hio rfl hb fun q hq =>
      ev_call2 (rd_fr rfl) (rd_fr rfl) (frzs_frfr _ _) (ht _ _ (wa p hp) (wb q hq))
    rw [x_ev_prim]
    show (ev C _ [some (frs a), some (frs b), some (fr p), none]).bind _ = _
    have e2 : b.map (fun q => fr (p * q)) = (b.map fun q => p * q).map fr := by rw [List.map_map]; rfl
    rw [h2, R.bind_ok, e2, prim_tuple (isFs_frs _)]; rfl
  have e1 : a.map (fun p => frs (b.map fun q => p * q)) = (outer a b).map frs := by unfold outer; rw [List.map_map]; rfl
  rw [x_ex_ret, x_ev_prim, h, R.bind_ok, e1, prim_tuple (isFs_tab _)]; rfl
def scaled (m : List (List Rat)) (s : Rat) : List (List Rat) := m.map fun r => r.map fun q => q * s
def IsScaled (f : List T → Cr) : Prop := ∀ (m : List (List Rat)) (s : Rat), m.length ≤ SZ → (∀ r ∈ m, r.length ≤ SZ) → (∀ r ∈ m, ∀ q ∈ r, Sm q) → Sm s → f [tab m, fr s] = ok0 (tab (scaled m s))
theorem scaled_is {C : Cn} {t : Nat} (hio : C.io = false) (ht : IsTimes (C.call t)) : IsScaled (run C 4 (Tx.scaled_table t)) := by
  intro m s ha hb wa wb
  refine run_rt hio (e := [some (tab m), some (fr s), none, none]) ?_
  unfold Tx.scaled_table startE
  refine exs_rt ?_
  show ex C _ [some (tab m), some (fr s), none, none] = _
  have h := lcT (C := C) (s := .seq (.var 0)) (x := .prim .tuple (.lc [3] (.nm 3) (.seq (.var 2)) .non (.call t (.cons (.var 3) (.cons (.var 1) .nil))))) (i := 2) (e := [some (tab m), some (fr s), none, none]) (fun r => frs (r.map fun q => q * s)) (srs_tab rfl) (by simp) hio rfl ha fun r hr => by
    have h2 := lcQ (C := C) (s := .seq (.var 2)) (x := .call t (.cons (.var 3) (.cons (.var 1) .nil))) (i := 3) (e := [some (tab m), some (fr s), some (frs r), none]) (fun q => fr (q * s)) (srs_frs rfl) (by simp) hio rfl (hb r hr) fun q hq =>
      ev_call2 (rd_fr rfl) (rd_fr rfl) (frzs_frfr _ _) (ht _ _ (wa r hr q hq) wb)
    rw [x_ev_prim]
    show (ev C _ [some (tab m), some (fr s), some (frs r), none]).bind _ = _
    have e2 : r.map (fun q => fr (q * s)) = (r.map fun q => q * s).map fr := by rw [List.map_map]; rfl
    rw [h2, R.bind_ok, e2, prim_tuple (isFs_frs _)]; rfl
  have e1 : m.map (fun r => frs (r.map fun q => q * s)) = (scaled m s).map frs := by unfold scaled; rw [List.map_map]; rfl
  rw [x_ex_ret, x_ev_prim, h, R.bind_ok, e1, prim_tuple (isFs_tab _)]; rfl
end Iv
set_option Elab.async false
set_option linter.all false
set_option maxRecDepth 100000
set_option exponentiation.threshold 20000
namespace Iv
open PySem
/-! ### comprehensions over the trees of plain lists -/
theorem lcLoop_mp {α : Type} {f : α → T} {C : Cn} {tg : Tg} {c : Eo} {x : E} {own : List Nat} {e0 : Env} {g : α → List T} : ∀ {l : List α} {e : Env}, Iv.wipe e own = Iv.wipe e0 own →
    (∀ a ∈ l, ∃ e', lcB C tg c x (f a) (Iv.wipe e0 own) = .ok (g a) e' ∧ Iv.wipe e' own = Iv.wipe e0 own) →
    ∃ e', lcLoop (fun t e1 => lcB C tg c x t (Iv.wipe e1 own)) (l.map f) e = .ok (l.flatMap g) e' ∧ Iv.wipe e' own = Iv.wipe e0 own
  | [], e, h, _ => ⟨e, rfl, h⟩
  | a :: l, e, h, hb => by
    obtain ⟨e1, h1, h2⟩ := hb a List.mem_cons_self
    obtain ⟨e2, h3, h4⟩ := lcLoop_mp (l := l) (e := e1) h2 fun u hu => hb u (List.mem_cons_of_mem _ hu)
    refine ⟨e2, ?_, h4⟩
    rw [List.map_cons, lcLoop, h, h1, R.bind_ok, h3, R.bind_ok]; rfl
theorem ev_lcp {α : Type} {f : α → T} {C : Cn} {tg : Tg} {s : Sr} {c : Eo} {x : E} {own : List Nat} {e e0 : Env} {l : List α} (g : α → List T) (hs : srs C s e = .ok (l.map f) e0) (ho : ownOk e0 own = true) (hl : (l.flatMap g).length ≤ SZ)
    (hb : ∀ a ∈ l, ∃ e', lcB C tg c x (f a) (Iv.wipe e0 own) = .ok (g a) e' ∧ Iv.wipe e' own = Iv.wipe e0 own) : ev C (.lc own tg s c x) e = .ok (.lst true (l.flatMap g)) e0 := by
  obtain ⟨e', h1, h2⟩ := lcLoop_mp (l := l) rfl hb
  rw [ev, hs, R.bind_ok]
  rw [show (lcLoop (fun t e1 => (asgTg C tg t (Iv.wipe e1 own)).bind fun _ e2 => (cnd C c e2).bind fun b e3 => if b = true then (ev C x e3).bind fun y e4 => .ok [y] e4 else .ok [] e3) (l.map f) e0) = .ok (l.flatMap g) e' from h1]
  show (if _ then _ else _) = _
  rw [if_pos ⟨hl, ho⟩, restore_wipe h2]
theorem flat1 {α : Type} (g : α → T) (p : α → Bool) (l : List α) : l.flatMap (fun t => if p t = true then [g t] else []) = (l.filter p).map g := by
  induction l with
  | nil => rfl
  | cons t its ih =>
    rw [List.flatMap_cons, ih, List.filter_cons]
    cases p t <;> rfl
/-- one name, with a condition -/
theorem lcAc {α : Type} (f : α → T) {C : Cn} {s : Sr} {c x : E} {i : Nat} {e e0 : Env} {l : List α} (p : α → Bool) (g : α → T) (hs : srs C s e = .ok (l.map f) e0) (hi : i < e0.length) (hio : C.io = false) (ho : ownOk e0 [i] = true) (hl : l.length ≤ SZ)
    (hc : ∀ a ∈ l, ev C c (e0.set i (some (f a))) = .ok (.bl (p a)) (e0.set i (some (f a)))) (hx : ∀ a ∈ l, p a = true → ev C x (e0.set i (some (f a))) = .ok (g a) (e0.set i (some (f a)))) :
    ev C (.lc [i] (.nm i) s (.som c) x) e = .ok (.lst true ((l.filter p).map g)) e0 := by
  have e1 := flat1 g p l
  rw [← e1]
  refine ev_lcp _ hs ho (by rw [e1, List.length_map]; exact Nat.le_trans (List.length_filter_le _ _) hl) fun a ha => ⟨e0.set i (some (f a)), ?_, ?_⟩
  · have hw : Iv.wipe e0 [i] = e0.set i none := rfl
    rw [hw]
    have hn : ¬ (e0.set i none).length ≤ i := by rw [List.length_set]; omega
    show (asgTg C (.nm i) (f a) (e0.set i none)).bind _ = _
    simp only [x_asgTg_nm, setNm, hio, Bool.false_and, Bool.false_or, decide_eq_true_eq, if_neg hn, R.bind_ok, List.set_set, x_cnd_som, hc a ha]
    cases hp : p a with
    | false => rfl
    | true => rw [if_pos rfl, hx a ha hp]; rfl
  · show (e0.set i (some (f a))).set i none = e0.set i none
    rw [List.set_set]
/-- one name -/
theorem lcA {α : Type} (f : α → T) {C : Cn} {s : Sr} {x : E} {i : Nat} {e e0 : Env} {l : List α} (g : α → T) (hs : srs C s e = .ok (l.map f) e0) (hi : i < e0.length) (hio : C.io = false) (ho : ownOk e0 [i] = true) (hl : l.length ≤ SZ)
    (hx : ∀ a ∈ l, ev C x (e0.set i (some (f a))) = .ok (g a) (e0.set i (some (f a)))) : ev C (.lc [i] (.nm i) s .non x) e = .ok (.lst true (l.map g)) e0 := by
  have e1 : l.flatMap (fun t => [g t]) = l.map g := by
    clear hs hl hx
    induction l with
    | nil => rfl
    | cons t its ih => rw [List.flatMap_cons, ih]; rfl
  rw [← e1]
  refine ev_lcp _ hs ho (by rw [e1, List.length_map]; exact hl) fun a ha => ⟨e0.set i (some (f a)), ?_, ?_⟩
  · have hw : Iv.wipe e0 [i] = e0.set i none := rfl
    rw [hw]
    have hn : ¬ (e0.set i none).length ≤ i := by rw [List.length_set]; omega
    show (asgTg C (.nm i) (f a) (e0.set i none)).bind _ = _
    simp only [x_asgTg_nm, setNm, hio, Bool.false_and, Bool.false_or, decide_eq_true_eq, if_neg hn, R.bind_ok, List.set_set]
    show ((R.ok true _).bind _) = _
    rw [R.bind_ok, if_pos rfl, hx a ha]; rfl
  · show (e0.set i (some (f a))).set i none = e0.set i none
    rw [List.set_set]
/-- two names, over pairs -/
theorem lcA2 {α : Type} (f1 f2 : α → T) {C : Cn} {s : Sr} {x : E} {i j : Nat} {e e0 : Env} {l : List α} (g : α → T) (hs : srs C s e = .ok (l.map fun a => .tup [f1 a, f2 a]) e0) (hi : i < e0.length) (hj : j < e0.length) (hij : i ≠ j) (hio : C.io = false) (ho : ownOk e0 [i, j] = true) (hl : l.length ≤ SZ)
    (hx : ∀ a ∈ l, ev C x ((e0.set i (some (f1 a))).set j (some (f2 a))) = .ok (g a) ((e0.set i (some (f1 a))).set j (some (f2 a)))) : ev C (.lc [i, j] (.tp (.cons (.nm i) (.cons (.nm j) .nil))) s .non x) e = .ok (.lst true (l.map g)) e0 := by
  have e1 : l.flatMap (fun t => [g t]) = l.map g := by
    clear hs hl hx
    induction l with
    | nil => rfl
    | cons t its ih => rw [List.flatMap_cons, ih]; rfl
  rw [← e1]
  have hw : Iv.wipe e0 [i, j] = (e0.set i none).set j none := List.set_comm _ _ (fun h => hij h.symm)
  refine ev_lcp _ hs ho (by rw [e1, List.length_map]; exact hl) fun a ha => ⟨(e0.set i (some (f1 a))).set j (some (f2 a)), ?_, ?_⟩
  · rw [hw]
    have hn : ¬ ((e0.set i none).set j none).length ≤ i := by rw [List.length_set, List.length_set]; omega
    have hn2 : ¬ (((e0.set i none).set j none).set i (some (f1 a))).length ≤ j := by rw [List.length_set, List.length_set, List.length_set]; omega
    have hq : ((((e0.set i none).set j none).set i (some (f1 a))).set j (some (f2 a))) = (e0.set i (some (f1 a))).set j (some (f2 a)) := by
      rw [List.set_comm none (some (f1 a)) (fun h => hij h.symm), List.set_set, List.set_set]
    show (asgTg C (.tp (.cons (.nm i) (.cons (.nm j) .nil))) (.tup [f1 a, f2 a]) _).bind _ = _
    have ha1 : asgTg C (.tp (.cons (.nm i) (.cons (.nm j) .nil))) (.tup [f1 a, f2 a]) ((e0.set i none).set j none) = .ok () ((e0.set i (some (f1 a))).set j (some (f2 a))) := by
      show (asgTg C (.nm i) (f1 a) _).bind _ = _
      simp only [x_asgTg_nm, setNm, hio, Bool.false_and, Bool.false_or, decide_eq_true_eq, if_neg hn, R.bind_ok, x_asgTgs_cons, if_neg hn2, x_asgTgs_nil, hq]
    rw [ha1, R.bind_ok]
    show ((R.ok true _).bind _) = _
    rw [R.bind_ok, if_pos rfl, hx a ha]; rfl
  · show (((e0.set i (some (f1 a))).set j (some (f2 a))).set j none).set i none = (e0.set j none).set i none
    rw [List.set_set, List.set_comm none none (fun h => hij h.symm), List.set_set, List.set_comm none none hij]
theorem srs_zip {α β : Type} (fa : α → T) (fb : β → T) {C : Cn} {i j : Nat} {e : Env} {a : List α} {b : List β} (ha : readV e i = .ok (.tup (a.map fa)) e) (hb : readV e j = .ok (.tup (b.map fb)) e) (fza : isFs (a.map fa) = true) (fzb : isFs (b.map fb) = true) :
    srs C (.zip (.var i) (.var j)) e = .ok ((a.zip b).map fun p => .tup [fa p.1, fb p.2]) e := by
  rw [srs, x_ev_var, ha, R.bind_ok, x_ev_var, hb, R.bind_ok]
  show R.ok (((frzs (a.map fa)).zip (frzs (b.map fb))).map fun p => T.tup [p.1, p.2]) e = _
  rw [frzs_of _ fza, frzs_of _ fzb, List.zip_map, List.map_map]; rfl
/-! ### sums of tables -/
def sumT (m n : List (List Rat)) : List (List Rat) := (m.zip n).map fun p => (p.1.zip p.2).map fun q => q.1 + q.2
def IsSumT (f : List T → Cr) : Prop := ∀ m n : List (List Rat), m.length ≤ SZ → (∀ r ∈ m, r.length ≤ SZ) → (∀ r ∈ m, ∀ q ∈ r, Sm q) → (∀ r ∈ n, ∀ q ∈ r, Sm q) → f [tab m, tab n] = ok0 (tab (sumT m n))
theorem sumt_is {C : Cn} {p : Nat} (hio : C.io = false) (hp : IsPlus (C.call p)) : IsSumT (run C 6 (Tx.plus_table p)) := by
  intro m n hl hr wm wn
  refine run_rt hio (e := [some (tab m), some (tab n), none, none, none, none]) ?_
  unfold Tx.plus_table startE
  refine exs_rt ?_
  show ex C _ [some (tab m), some (tab n), none, none, none, none] = _
  have h := lcA2 (α := List Rat × List Rat) (fun u => frs u.1) (fun u => frs u.2) (C := C) (s := .zip (.var 0) (.var 1)) (x := .prim .tuple (.lc [4, 5] (.tp (.cons (.nm 4) (.cons (.nm 5) .nil))) (.zip (.var 2) (.var 3)) .non (.call p (.cons (.var 4) (.cons (.var 5) .nil))))) (i := 2) (j := 3) (e := [some (tab m), some (tab n), none, none, none, none]) (fun u => frs ((u.1.zip u.2).map fun q => q.1 + q.2)) (srs_zip frs frs (rd_tab rfl) (rd_tab rfl) (isFs_tab _) (isFs_tab _)) (by simp) (by simp) (by decide) hio rfl (by rw [List.length_zip]; omega) fun u hu => by
    obtain ⟨r, s⟩ := u
    have h1 := (List.of_mem_zip hu).1
    have h2 := (List.of_mem_zip hu).2
    have hin := lcA2 (α := Rat × Rat) (fun q => fr q.1) (fun q => fr q.2) (C := C) (s := .zip (.var 2) (.var 3)) (x := .call p (.cons (.var 4) (.cons (.var 5) .nil))) (i := 4) (j := 5) (e := [some (tab m), some (tab n), some (frs r), some (frs s), none, none]) (fun q => fr (q.1 + q.2)) (srs_zip fr fr (rd_frs rfl) (rd_frs rfl) (isFs_frs _) (isFs_frs _)) (by simp) (by simp) (by decide) hio rfl (by have := hr r h1; rw [List.length_zip]; omega) fun q hq =>
      ev_call2 (rd_fr rfl) (rd_fr rfl) (frzs_frfr _ _) (hp _ _ (wm r h1 _ (List.of_mem_zip hq).1) (wn s h2 _ (List.of_mem_zip hq).2))
    have e2 : (r.zip s).map (fun q => fr (q.1 + q.2)) = ((r.zip s).map fun q => q.1 + q.2).map fr := by rw [List.map_map]; rfl
    rw [x_ev_prim]
    show (ev C _ [some (tab m), some (tab n), some (frs r), some (frs s), none, none]).bind _ = _
    rw [hin, R.bind_ok, e2, prim_tuple (isFs_frs _)]; rfl
  have e1 : (m.zip n).map (fun u => frs ((u.1.zip u.2).map fun q => q.1 + q.2)) = (sumT m n).map frs := by unfold sumT; rw [List.map_map]; rfl
  rw [x_ex_ret, x_ev_prim, h, R.bind_ok, e1, prim_tuple (isFs_tab _)]; rfl
end Iv
set_option Elab.async false
set_option linter.all false
set_option maxRecDepth 100000
set_option exponentiation.threshold 20000
namespace Tx
open Iv
def kernel_of (s o : Nat) : Ss :=
    (.cons (.asg (.nm 1) (.lst .nil))
    (.cons (.for (.nm 2) (.seq (.var 0)) (.cons (.asg (.nm 3) (.call s (.cons (.primv .list 2) .nil)))
    (.cons (.ife (.cmp .eq (.ix 3 (.int 0)) (.int 0)) (.cons (.app 1 (.prim .tuple (.lc [4] (.nm 4) (.rg1 (.primv .len 2)) .non (.ife (.cmpL .eq 4 (.int 0)) (.tup (.cons (.int 1) (.cons (.int 1) .nil))) (.tup (.cons (.int 0) (.cons (.int 1) .nil)))))))
    .nil) (.cons (.app 1 (.prim .tuple (.lc [5] (.nm 5) (.seq (.var 2)) .non (.call o (.cons (.var 5) (.cons (.var 3) .nil))))))
    .nil))
    .nil)))
    (.cons (.ret (.primv .tuple 1))
    .nil)))
end Tx
namespace Iv
open PySem
def unitR (n : Nat) : List Rat := (List.range n).map fun k => if k = 0 then 1 else 0
def kerRow (r : List Rat) : List Rat := if tot r = 0 then unitR r.length else r.map fun q => q / tot r
def kerOf (m : List (List Rat)) : List (List Rat) := m.map kerRow
def IsKerOf (f : List T → Cr) : Prop := ∀ m : List (List Rat), m.length ≤ 1000 → (∀ r ∈ m, r.length ≤ 1000 ∧ SumOk r ∧ ∀ q ∈ r, Sm q) → f [tab m] = ok0 (tab (kerOf m))
theorem cmpInt (a b : Int) : cmp .eq (.int a) (.int b) = some (decide (a = b)) := by rw [cmpEq rfl rfl, eqT_int, Bool.beq_eq_decide_eq]
theorem SumOk.self {l : List Rat} (h : SumOk l) : Sm (tot l) := h l [] (by simp)
theorem num_at (q : Rat) : at_ (fr q) (.int 0) = some (.int q.num) := rfl
theorem asg_nm {C : Cn} {i : Nat} {t : T} {e : Env} (hio : C.io = false) (hi : i < e.length) : asgTg C (.nm i) t e = .ok () (e.set i (some t)) := by
  have hn : ¬ e.length ≤ i := by omega
  simp [setNm, hio, hn]
theorem ko_row {C : Cn} {s o : Nat} (hio : C.io = false) (hs : IsSum (C.call s)) (ho : IsOver (C.call o)) {x0 x3 : Option T} {f : List (List Rat)} {r : List Rat} (hf : f.length < 1000) (hr : r.length ≤ 1000) (h1 : SumOk r) (h2 : ∀ q ∈ r, Sm q) :
    exs C (.cons (.asg (.nm 3) (.call s (.cons (.primv .list 2) .nil)))
    (.cons (.ife (.cmp .eq (.ix 3 (.int 0)) (.int 0)) (.cons (.app 1 (.prim .tuple (.lc [4] (.nm 4) (.rg1 (.primv .len 2)) .non (.ife (.cmpL .eq 4 (.int 0)) (.tup (.cons (.int 1) (.cons (.int 1) .nil))) (.tup (.cons (.int 0) (.cons (.int 1) .nil)))))))
    .nil) (.cons (.app 1 (.prim .tuple (.lc [5] (.nm 5) (.seq (.var 2)) .non (.call o (.cons (.var 5) (.cons (.var 3) .nil))))))
    .nil))
    .nil)) [x0, some (.lst true (f.map frs)), some (frs r), x3, none, none] = .ok .nx [x0, some (.lst true ((f ++ [kerRow r]).map frs)), some (frs r), some (fr (tot r)), none, none] := by
  have hsz : (f.map frs).length < SZ := by have : SZ = 16777216 := rfl; rw [List.length_map]; omega
  have hcall := hs r (.lst false (r.map fr)) (.inl rfl) h1 h2
  have ha : ex C (.asg (.nm 3) (.call s (.cons (.primv .list 2) .nil))) [x0, some (.lst true (f.map frs)), some (frs r), x3, none, none] = .ok .nx [x0, some (.lst true (f.map frs)), some (frs r), some (fr (tot r)), none, none] := by
    simp [gt, prim_list_frs, frzs, frz, hcall, setNm, hio]
  have hapl : ∀ (a : E), ev C a [x0, some (.lst true (f.map frs)), some (frs r), some (fr (tot r)), none, none] = .ok (frs (kerRow r)) [x0, some (.lst true (f.map frs)), some (frs r), some (fr (tot r)), none, none] →
      exs C (.cons (.app 1 a) .nil) [x0, some (.lst true (f.map frs)), some (frs r), some (fr (tot r)), none, none] = .ok .nx [x0, some (.lst true ((f ++ [kerRow r]).map frs)), some (frs r), some (fr (tot r)), none, none] := by
    intro a h
    rw [exs_nx (e1 := [x0, some (.lst true ((f ++ [kerRow r]).map frs)), some (frs r), some (fr (tot r)), none, none])]
    · simp
    · rw [x_ex_app, h]
      have e1 : (f.map frs) ++ [frs (kerRow r)] = (f ++ [kerRow r]).map frs := by rw [List.map_append]; rfl
      show (if (f.map frs).length < SZ then R.ok Fl.nx [x0, some (.lst true ((f.map frs) ++ [frs (kerRow r)])), some (frs r), some (fr (tot r)), none, none] else .bad) = _
      rw [if_pos hsz, e1]
  have hc : ev C (.cmp .eq (.ix 3 (.int 0)) (.int 0)) [x0, some (.lst true (f.map frs)), some (frs r), some (fr (tot r)), none, none] = .ok (.bl (decide (tot r = 0))) [x0, some (.lst true (f.map frs)), some (frs r), some (fr (tot r)), none, none] := by
    have e1 : decide (tot r = 0) = decide ((tot r).num = 0) := by
      rw [decide_eq_decide]; exact ⟨fun h => by rw [h]; rfl, fun h => Rat.num_eq_zero.mp h⟩
    rw [e1]
    generalize tot r = d at *
    simp [has, gt, num_at, fz, isF, cmpInt, boolR]
  rw [exs_nx ha]
  by_cases hz : tot r = 0
  · rw [exs_nx (e1 := [x0, some (.lst true ((f ++ [kerRow r]).map frs)), some (frs r), some (fr (tot r)), none, none])]
    · simp
    · rw [x_ex_ife, hc, R.bind_ok, decide_eq_true hz]
      refine hapl _ ?_
      have h := lc1r (C := C) (a := .primv .len 2) (x := .ife (.cmpL .eq 4 (.int 0)) (.tup (.cons (.int 1) (.cons (.int 1) .nil))) (.tup (.cons (.int 0) (.cons (.int 1) .nil)))) (i := 4) (n := r.length) (e := [x0, some (.lst true (f.map frs)), some (frs r), some (fr (tot r)), none, none]) (e0 := [x0, some (.lst true (f.map frs)), some (frs r), some (fr (tot r)), none, none]) (fun k => fr (if k = 0 then (1 : Rat) else 0)) (by simp [gt, prim_len_frs]) (by simp) hio rfl (by have : SZ = 16777216 := rfl; omega) fun k hk => by
        have hck : cmp .eq (.int k) (.int 0) = some (decide (k = 0)) := by
          rw [cmpInt]
          congr 1
          rw [decide_eq_decide]; omega
        generalize tot r = d at *
        by_cases hk0 : k = 0
        · subst hk0
          have hck : cmp .eq (.int 0) (.int 0) = some true := rfl
          simp [has, gt, hck, boolR, fr1]
        · simp [has, gt, hck, boolR, fr0, hk0]
      have e1 : (List.range r.length).map (fun k => fr (if k = 0 then (1 : Rat) else 0)) = (unitR r.length).map fr := by unfold unitR; rw [List.map_map]; rfl
      have e2 : kerRow r = unitR r.length := by unfold kerRow; rw [if_pos hz]
      rw [x_ev_prim, h, R.bind_ok, e1, prim_tuple (isFs_frs _), e2]; rfl
  · rw [exs_nx (e1 := [x0, some (.lst true ((f ++ [kerRow r]).map frs)), some (frs r), some (fr (tot r)), none, none])]
    · simp
    · rw [x_ex_ife, hc, R.bind_ok, decide_eq_false hz]
      refine hapl _ ?_
      have h := lcA fr (C := C) (s := .seq (.var 2)) (x := .call o (.cons (.var 5) (.cons (.var 3) .nil))) (i := 5) (e := [x0, some (.lst true (f.map frs)), some (frs r), some (fr (tot r)), none, none]) (fun q => fr (q / tot r)) (srs_frs rfl) (by simp) hio rfl (by have : SZ = 16777216 := rfl; omega) fun q hq =>
        ev_call2 (rd_fr rfl) (rd_fr rfl) (frzs_frfr _ _) (ho _ _ (h2 q hq) h1.self hz)
      have e1 : r.map (fun q => fr (q / tot r)) = (r.map fun q => q / tot r).map fr := by rw [List.map_map]; rfl
      have e2 : kerRow r = r.map fun q => q / tot r := by unfold kerRow; rw [if_neg hz]
      rw [x_ev_prim, h, R.bind_ok, e1, prim_tuple (isFs_frs _), e2]; rfl
theorem ko_loop {C : Cn} {s o : Nat} (hio : C.io = false) (hs : IsSum (C.call s)) (ho : IsOver (C.call o)) {x0 : Option T} : ∀ (m f : List (List Rat)) (x2 x3 : Option T), (∀ r ∈ m, r.length ≤ 1000 ∧ SumOk r ∧ ∀ q ∈ r, Sm q) → f.length + m.length ≤ 1000 →
    ∃ y2 y3, forLoop (fun x e => (asgTg C (.nm 2) x e).bind fun _ e => exs C (.cons (.asg (.nm 3) (.call s (.cons (.primv .list 2) .nil)))
    (.cons (.ife (.cmp .eq (.ix 3 (.int 0)) (.int 0)) (.cons (.app 1 (.prim .tuple (.lc [4] (.nm 4) (.rg1 (.primv .len 2)) .non (.ife (.cmpL .eq 4 (.int 0)) (.tup (.cons (.int 1) (.cons (.int 1) .nil))) (.tup (.cons (.int 0) (.cons (.int 1) .nil)))))))
    .nil) (.cons (.app 1 (.prim .tuple (.lc [5] (.nm 5) (.seq (.var 2)) .non (.call o (.cons (.var 5) (.cons (.var 3) .nil))))))
    .nil))
    .nil)) e) (m.map frs) [x0, some (.lst true (f.map frs)), x2, x3, none, none] = .ok .nx [x0, some (.lst true ((f ++ kerOf m).map frs)), y2, y3, none, none]
  | [], f, x2, x3, _, _ => ⟨x2, x3, by simp [forLoop, kerOf]⟩
  | r :: m, f, x2, x3, h1, h3 => by
    obtain ⟨a1, a2, a3⟩ := h1 r List.mem_cons_self
    rw [List.length_cons] at h3
    have hrow := ko_row (x0 := x0) (x3 := x3) hio hs ho (f := f) (by omega) a1 a2 a3
    obtain ⟨y2, y3, hx⟩ := ko_loop hio hs ho (x0 := x0) m (f ++ [kerRow r]) (some (frs r)) (some (fr (tot r))) (fun r' hr => h1 r' (List.mem_cons_of_mem _ hr)) (by rw [List.length_append, List.length_singleton]; omega)
    refine ⟨y2, y3, ?_⟩
    rw [List.map_cons, for_nx (e1 := [x0, some (.lst true ((f ++ [kerRow r]).map frs)), some (frs r), some (fr (tot r)), none, none]), hx, List.append_assoc]
    · rfl
    · rw [asg_nm hio (by simp), R.bind_ok]; exact hrow
theorem kerof_is {C : Cn} {s o : Nat} (hio : C.io = false) (hs : IsSum (C.call s)) (ho : IsOver (C.call o)) : IsKerOf (run C 6 (Tx.kernel_of s o)) := by
  intro m hl h
  obtain ⟨y2, y3, hx⟩ := ko_loop hio hs ho (x0 := some (tab m)) m [] none none h (by simpa using hl)
  refine run_rt hio (e := [some (tab m), some (.lst true ((kerOf m).map frs)), y2, y3, none, none]) ?_
  unfold Tx.kernel_of startE
  show exs C _ [some (tab m), none, none, none, none, none] = _
  have ha2 : ex C (.asg (.nm 1) (.lst .nil)) [some (tab m), none, none, none, none, none] = .ok .nx [some (tab m), some (.lst true []), none, none, none, none] := by
    simp [setNm, hio, frzs]
  rw [List.map_nil, List.nil_append] at hx
  rw [exs_nx ha2, exs_nx (ex_for (its := m.map frs) (srs_tab rfl) hx)]
  refine exs_rt ?_
  have hp : Iv.prim .tuple (.lst true ((kerOf m).map frs)) = some (tab (kerOf m)) := prim_tuple (isFs_tab _)
  simp [gt, hp]
def coupOf (a : List Rat) (K : List (List Rat)) : List (List Rat) := (List.range a.length).map fun k => (K.getD k []).map fun q => a.getD k 0 * q
def IsCoupOf (f : List T → Cr) : Prop := ∀ (a : List Rat) (K : List (List Rat)), a.length ≤ 1000 → a.length ≤ K.length → (∀ q ∈ a, Sm q) → (∀ r ∈ K, r.length ≤ 1000 ∧ ∀ q ∈ r, Sm q) → f [frs a, tab K] = ok0 (tab (coupOf a K))
theorem coupof_is {C : Cn} {t : Nat} (hio : C.io = false) (ht : IsTimes (C.call t)) : IsCoupOf (run C 4 (Tx.coupling_of t)) := by
  intro a K hl hK wa wK
  refine run_rt hio (e := [some (frs a), some (tab K), none, none]) ?_
  unfold Tx.coupling_of startE
  refine exs_rt ?_
  show ex C _ [some (frs a), some (tab K), none, none] = _
  have h := lc1r (C := C) (a := .primv .len 0) (x := .prim .tuple (.lc [3] (.nm 3) (.seq (.ix 1 (.var 2))) .non (.call t (.cons (.ix 0 (.var 2)) (.cons (.var 3) .nil))))) (i := 2) (n := a.length) (e := [some (frs a), some (tab K), none, none]) (e0 := [some (frs a), some (tab K), none, none]) (fun k => frs ((K.getD k []).map fun q => a.getD k 0 * q)) (by simp [gt, prim_len_frs]) (by simp) hio rfl (by have : SZ = 16777216 := rfl; omega) fun k hk => by
    have hk2 : k < K.length := by omega
    obtain ⟨b1, b2⟩ := wK _ (getDD_mem hk2)
    have g1 := at_tab hk2
    have g0 := at_frs hk
    have wa1 := wa _ (getD_mem hk)
    have hsq : srs C (.seq (.ix 1 (.var 2))) [some (frs a), some (tab K), some (.int k), none] = .ok ((K.getD k []).map fr) [some (frs a), some (tab K), some (.int k), none] := by
      generalize K.getD k [] = r at *
      have g2 : ev C (.ix 1 (.var 2)) [some (frs a), some (tab K), some (.int k), none] = .ok (frs r) [some (frs a), some (tab K), some (.int k), none] := by
        simp [has, gt, rv_int, g1, fz_frs]
      rw [srs, g2, R.bind_ok]
      show R.ok (frzs (r.map fr)) _ = _
      rw [frzs_frl]
    have h2 := lcA fr (C := C) (s := .seq (.ix 1 (.var 2))) (x := .call t (.cons (.ix 0 (.var 2)) (.cons (.var 3) .nil))) (i := 3) (e := [some (frs a), some (tab K), some (.int k), none]) (fun q => fr (a.getD k 0 * q)) hsq (by simp) hio rfl (by have : SZ = 16777216 := rfl; omega) fun q hq => by
      have hc := ht _ _ wa1 (b2 q hq)
      generalize a.getD k 0 = p at *
      generalize p * q = d at *
      have g3 : readV [some (frs a), some (tab K), some (.int k), some (fr q)] 3 = .ok (fr q) [some (frs a), some (tab K), some (.int k), some (fr q)] := rd_fr rfl
      simp [has, gt, rv_int, g0, g3, fz_fr, frzs_frfr, hc]
    have e2 : (K.getD k []).map (fun q => fr (a.getD k 0 * q)) = ((K.getD k []).map fun q => a.getD k 0 * q).map fr := by rw [List.map_map]; rfl
    rw [x_ev_prim]
    show (ev C _ [some (frs a), some (tab K), some (.int k), none]).bind _ = _
    rw [h2, R.bind_ok, e2, prim_tuple (isFs_frs _)]; rfl
  have e1 : (List.range a.length).map (fun k => frs ((K.getD k []).map fun q => a.getD k 0 * q)) = (coupOf a K).map frs := by unfold coupOf; rw [List.map_map]; rfl
  rw [x_ex_ret, x_ev_prim, h, R.bind_ok, e1, prim_tuple (isFs_tab _)]; rfl
end Iv
set_option Elab.async false
set_option linter.all false
set_option maxRecDepth 100000
set_option exponentiation.threshold 20000
namespace Tx
open Iv
def cornerB (m : Nat) : Ss :=
    (.cons (.asg (.nm 7) (.call m (.cons (.ix 3 (.var 5)) (.cons (.ix 4 (.var 6)) .nil))))
    (.cons (.asg (.nm 8) (.ife (.cmp .lt (.ix 7 (.int 0)) (.int 0)) (.ix 3 (.var 5)) (.ix 4 (.var 6))))
    (.cons (.asg (.ix2 2 (.var 5) (.var 6)) (.var 8))
    (.cons (.asg (.tp (.cons (.ix 3 (.var 5)) (.cons (.ix 4 (.var 6)) .nil))) (.tup (.cons (.call m (.cons (.ix 3 (.var 5)) (.cons (.var 8) .nil))) (.cons (.call m (.cons (.ix 4 (.var 6)) (.cons (.var 8) .nil))) .nil))))
    (.cons (.ife (.cmp .eq (.idx (.ix 3 (.var 5)) (.int 0)) (.int 0)) (.cons (.aug 5 .add (.int 1))
    .nil) (.cons (.aug 6 .add (.int 1))
    .nil))
    .nil)))))
def corner_coupling (m c : Nat) : Ss :=
    (.cons (.exp (.call c (.cons (.var 0) (.cons (.var 1) .nil))))
    (.cons (.par [3, 4] (.cons (.primv .list 0) (.cons (.primv .list 1) .nil)))
    (.cons (.asg (.nm 2) (.lc [9] (.nm 9) (.seq (.var 0)) .non (.bin .mul (.lst (.cons (.tup (.cons (.int 0) (.cons (.int 1) .nil))) .nil)) (.primv .len 1))))
    (.cons (.asg (.tp (.cons (.nm 5) (.cons (.nm 6) .nil))) (.tup (.cons (.int 0) (.cons (.int 0) .nil))))
    (.cons (.whl (.and (.cmpL .lt 5 (.primv .len 3)) (.cmpL .lt 6 (.primv .len 4))) (cornerB m))
    (.cons (.ret (.prim .tuple (.lc [10] (.nm 10) (.seq (.var 2)) .non (.primv .tuple 10))))
    .nil))))))
end Tx
namespace Iv
open PySem
def lq (l : List Rat) : T := .lst true (l.map fr)
def mt (m : List (List Rat)) : T := .lst true (m.map lq)
theorem ixN_nat {n k : Nat} (h : k < n) : L2.ixN n (k : Int) = some k := by
  unfold L2.ixN
  rw [if_pos (by omega), if_pos (by omega), Int.toNat_natCast]
theorem at_lq {l : List Rat} {k : Nat} (h : k < l.length) : at_ (lq l) (.int k) = some (fr (l.getD k 0)) := by
  show L2.atI (l.map fr) (k : Int) = _
  refine L2.atI_nat ?_
  rw [List.getElem?_map, List.getElem?_eq_getElem h, List.getD_eq_getElem?_getD, List.getElem?_eq_getElem h]
  rfl
theorem setIx_lq {x k : Nat} {l : List Rat} {q : Rat} {e : Env} (hx : gt e x = some (lq l)) (hk : k < l.length) : setIx x (.int k) (fr q) e = .ok () (e.set x (some (lq (l.set k q)))) := by
  unfold setIx
  rw [hx]
  show (match L2.ixN (l.map fr).length (k : Int) with
    | some j => R.ok () (e.set x (some (.lst true ((l.map fr).set j (fr q)))))
    | none => .bad) = _
  rw [ixN_nat (by rw [List.length_map]; exact hk)]
  show R.ok () (e.set x (some (.lst true ((l.map fr).set k (fr q))))) = _
  rw [← List.map_set]; rfl
theorem setIx2_mt {x k i : Nat} {m : List (List Rat)} {q : Rat} {e : Env} (hx : gt e x = some (mt m)) (hk : k < m.length) (hi : i < (m.getD k []).length) : setIx2 x (.int k) (.int i) (fr q) e = .ok () (e.set x (some (mt (m.set k ((m.getD k []).set i q))))) := by
  unfold setIx2
  rw [hx]
  have h1 : (m.map lq)[k]? = some (.lst true ((m.getD k []).map fr)) := by
    rw [List.getElem?_map, List.getElem?_eq_getElem hk, List.getD_eq_getElem?_getD, List.getElem?_eq_getElem hk]; rfl
  show (match L2.ixN (m.map lq).length (k : Int) with
    | some n => (match (m.map lq)[n]? with
      | some (.lst true us) => (match L2.ixN us.length (i : Int) with
        | some j => R.ok () (e.set x (some (.lst true ((m.map lq).set n (.lst true (us.set j (fr q)))))))
        | none => .bad)
      | _ => .bad)
    | none => .bad) = _
  rw [ixN_nat (by rw [List.length_map]; exact hk)]
  show (match (m.map lq)[k]? with
      | some (.lst true us) => (match L2.ixN us.length (i : Int) with
        | some j => R.ok () (e.set x (some (.lst true ((m.map lq).set k (.lst true (us.set j (fr q)))))))
        | none => .bad)
      | _ => .bad) = _
  rw [h1]
  show (match L2.ixN ((m.getD k []).map fr).length (i : Int) with
        | some j => R.ok () (e.set x (some (.lst true ((m.map lq).set k (.lst true (((m.getD k []).map fr).set j (fr q)))))))
        | none => .bad) = _
  rw [ixN_nat (by rw [List.length_map]; exact hi)]
  show R.ok () (e.set x (some (.lst true ((m.map lq).set k (.lst true (((m.getD k []).map fr).set i (fr q))))))) = _
  rw [← List.map_set]
  show R.ok () (e.set x (some (.lst true ((m.map lq).set k (lq ((m.getD k []).set i q)))))) = _
  rw [← List.map_set]; rfl
theorem ev_ixq {C : Cn} {x i k : Nat} {l : List Rat} {e : Env} (hx : gt e x = some (lq l)) (hi : gt e i = some (.int k)) (hk : k < l.length) : ev C (.ix x (.var i)) e = .ok (fr (l.getD k 0)) e := by
  have h1 := at_lq hk
  generalize l.getD k 0 = d at *
  simp only [x_ev_ix, has, hx, x_ev_var, rv_int _ _ _ hi, R.bind_ok, h1, fz_fr]
def part (p q : Rat) : Rat := if p - q < 0 then p else q
theorem part_cases (p q : Rat) : (p - q < 0 ∧ part p q = p) ∨ (¬ p - q < 0 ∧ part p q = q) := by
  unfold part
  by_cases h : p - q < 0
  · exact .inl ⟨h, if_pos h⟩
  · exact .inr ⟨h, if_neg h⟩
theorem cmpLtInt (a b : Int) : cmp .lt (.int a) (.int b) = some (decide (a < b)) := by simp [cmp]
theorem num_neg (q : Rat) : decide (q.num < 0) = decide (q < 0) := by
  rw [decide_eq_decide, ← Rat.not_le, ← Rat.num_nonneg]; omega
theorem num_zero (q : Rat) : decide (q.num = 0) = decide (q = 0) := by
  rw [decide_eq_decide]; exact Rat.num_eq_zero
abbrev cE (x0 x1 : Option T) (F : List (List Rat)) (A B : List Rat) (i j : Nat) (x7 x8 : Option T) : Env := [x0, x1, some (mt F), some (lq A), some (lq B), some (.int i), some (.int j), x7, x8, none, none]
theorem cornerB_is {C : Cn} {m : Nat} (hio : C.io = false) (hm : IsMinus (C.call m)) {x0 x1 x7 x8 : Option T} {F : List (List Rat)} {A B : List Rat} {i j : Nat} (hi : i < A.length) (hj : j < B.length) (hF : i < F.length) (hG : j < (F.getD i []).length)
    (wL : Sm (A.getD i 0)) (wR : Sm (B.getD j 0)) :
    exs C (Tx.cornerB m) (cE x0 x1 F A B i j x7 x8) =
      .ok .nx (cE x0 x1 (F.set i ((F.getD i []).set j (part (A.getD i 0) (B.getD j 0)))) (A.set i (A.getD i 0 - part (A.getD i 0) (B.getD j 0))) (B.set j (B.getD j 0 - part (A.getD i 0) (B.getD j 0)))
        (if A.getD i 0 - part (A.getD i 0) (B.getD j 0) = 0 then i + 1 else i) (if A.getD i 0 - part (A.getD i 0) (B.getD j 0) = 0 then j else j + 1) (some (fr (A.getD i 0 - B.getD j 0))) (some (fr (part (A.getD i 0) (B.getD j 0))))) := by
  have c1 := hm _ _ wL wR
  have wP : Sm (part (A.getD i 0) (B.getD j 0)) := by unfold part; split <;> assumption
  have c2 := hm _ _ wL wP
  have c3 := hm _ _ wR wP
  have hcase := part_cases (A.getD i 0) (B.getD j 0)
  have hgA : (A.set i (A.getD i 0 - part (A.getD i 0) (B.getD j 0))).getD i 0 = A.getD i 0 - part (A.getD i 0) (B.getD j 0) := by
    rw [List.getD_eq_getElem?_getD, List.getElem?_set_self hi]; rfl
  have e3 : ∀ (F : List (List Rat)) x7 x8, ev C (.ix 3 (.var 5)) (cE x0 x1 F A B i j x7 x8) = .ok (fr (A.getD i 0)) (cE x0 x1 F A B i j x7 x8) := fun F x7 x8 => ev_ixq (l := A) (k := i) rfl rfl hi
  have e4 : ∀ (F : List (List Rat)) x7 x8, ev C (.ix 4 (.var 6)) (cE x0 x1 F A B i j x7 x8) = .ok (fr (B.getD j 0)) (cE x0 x1 F A B i j x7 x8) := fun F x7 x8 => ev_ixq (l := B) (k := j) rfl rfl hj
  have e5 : ∀ (F : List (List Rat)) (A' B' : List Rat) x7 x8, i < A'.length → ev C (.ix 3 (.var 5)) (cE x0 x1 F A' B' i j x7 x8) = .ok (fr (A'.getD i 0)) (cE x0 x1 F A' B' i j x7 x8) := fun F A' B' x7 x8 h => ev_ixq (l := A') (k := i) rfl rfl h
  have hl : (A.set i (A.getD i 0 - part (A.getD i 0) (B.getD j 0))).length = A.length := List.length_set
  have e6 := e5 (F.set i ((F.getD i []).set j (part (A.getD i 0) (B.getD j 0)))) (A.set i (A.getD i 0 - part (A.getD i 0) (B.getD j 0))) (B.set j (B.getD j 0 - part (A.getD i 0) (B.getD j 0))) (some (fr (A.getD i 0 - B.getD j 0))) (some (fr (part (A.getD i 0) (B.getD j 0)))) (by rw [hl]; exact hi)
  rw [hgA] at e6
  have s2 : ∀ (q : Rat) x7 x8, setIx2 2 (.int i) (.int j) (fr q) (cE x0 x1 F A B i j x7 x8) = .ok () (cE x0 x1 (F.set i ((F.getD i []).set j q)) A B i j x7 x8) := fun q x7 x8 => setIx2_mt rfl hF hG
  have s3 : ∀ (F : List (List Rat)) (q : Rat) x7 x8, setIx 3 (.int i) (fr q) (cE x0 x1 F A B i j x7 x8) = .ok () (cE x0 x1 F (A.set i q) B i j x7 x8) := fun F q x7 x8 => setIx_lq rfl hi
  have s4 : ∀ (F : List (List Rat)) (A' : List Rat) (q : Rat) x7 x8, setIx 4 (.int j) (fr q) (cE x0 x1 F A' B i j x7 x8) = .ok () (cE x0 x1 F A' (B.set j q) i j x7 x8) := fun F A' q x7 x8 => setIx_lq rfl hj
  generalize hF' : F.set i ((F.getD i []).set j (part (A.getD i 0) (B.getD j 0))) = F' at *
  generalize hA' : A.set i (A.getD i 0 - part (A.getD i 0) (B.getD j 0)) = A' at *
  generalize hB' : B.set j (B.getD j 0 - part (A.getD i 0) (B.getD j 0)) = B' at *
  generalize ha : A.getD i 0 = a at *
  generalize hb : B.getD j 0 = b at *
  generalize hp : part a b = p at *
  generalize hd : a - b = d at *
  generalize ha2 : a - p = a2 at *
  generalize hb2 : b - p = b2 at *
  have t1 : ex C (.asg (.nm 7) (.call m (.cons (.ix 3 (.var 5)) (.cons (.ix 4 (.var 6)) .nil)))) (cE x0 x1 F A B i j x7 x8) = .ok .nx (cE x0 x1 F A B i j (some (fr d)) x8) := by
    simp only [x_ex_asg, x_ev_call, x_evs_cons, x_evs_nil, e3, e4, R.bind_ok, frzs_frfr, c1, bind_ok0, asg_nm hio (show 7 < (cE x0 x1 F A B i j x7 x8).length from by simp)]
    rfl
  have t2 : ex C (.asg (.nm 8) (.ife (.cmp .lt (.ix 7 (.int 0)) (.int 0)) (.ix 3 (.var 5)) (.ix 4 (.var 6)))) (cE x0 x1 F A B i j (some (fr d)) x8) = .ok .nx (cE x0 x1 F A B i j (some (fr d)) (some (fr p))) := by
    have g1 : ev C (.cmp .lt (.ix 7 (.int 0)) (.int 0)) (cE x0 x1 F A B i j (some (fr d)) x8) = .ok (.bl (decide (d < 0))) (cE x0 x1 F A B i j (some (fr d)) x8) := by
      rw [← num_neg]
      simp [has, gt, num_at, fz, isF, cmpLtInt, boolR]
    rw [x_ex_asg, x_ev_ife, g1, R.bind_ok]
    rcases hcase with ⟨h1, h2⟩ | ⟨h1, h2⟩
    · rw [decide_eq_true h1]
      show (((ev C (.ix 3 (.var 5)) (cE x0 x1 F A B i j (some (fr d)) x8))).bind _) = _
      rw [e3, R.bind_ok, asg_nm hio (show 8 < (cE x0 x1 F A B i j (some (fr d)) x8).length from by simp), h2]; rfl
    · rw [decide_eq_false h1]
      show (((ev C (.ix 4 (.var 6)) (cE x0 x1 F A B i j (some (fr d)) x8))).bind _) = _
      rw [e4, R.bind_ok, asg_nm hio (show 8 < (cE x0 x1 F A B i j (some (fr d)) x8).length from by simp), h2]; rfl
  have t3 : ex C (.asg (.ix2 2 (.var 5) (.var 6)) (.var 8)) (cE x0 x1 F A B i j (some (fr d)) (some (fr p))) = .ok .nx (cE x0 x1 F' A B i j (some (fr d)) (some (fr p))) := by
    have g1 := s2 p (some (fr d)) (some (fr p))
    rw [hF'] at g1
    have g2 : pv (.var 6) (cE x0 x1 F A B i j (some (fr d)) (some (fr p))) = some (j : Int) := rfl
    rw [x_ex_asg, x_ev_var, rd_fr (q := p) rfl, R.bind_ok, x_asgTg_ix2, x_ev_var, rv_int _ _ _ rfl, R.bind_ok, g2]
    simp only [g1, has]
    rfl
  have t4 : ex C (.asg (.tp (.cons (.ix 3 (.var 5)) (.cons (.ix 4 (.var 6)) .nil))) (.tup (.cons (.call m (.cons (.ix 3 (.var 5)) (.cons (.var 8) .nil))) (.cons (.call m (.cons (.ix 4 (.var 6)) (.cons (.var 8) .nil))) .nil)))) (cE x0 x1 F' A B i j (some (fr d)) (some (fr p))) = .ok .nx (cE x0 x1 F' A' B' i j (some (fr d)) (some (fr p))) := by
    have g1 := s3 F' a2 (some (fr d)) (some (fr p))
    rw [hA'] at g1
    have g2 := s4 F' A' b2 (some (fr d)) (some (fr p))
    rw [hB'] at g2
    have r8 : ∀ F, readV (cE x0 x1 F A B i j (some (fr d)) (some (fr p))) 8 = .ok (fr p) (cE x0 x1 F A B i j (some (fr d)) (some (fr p))) := fun F => rd_fr rfl
    have r5 : ∀ F A B, readV (cE x0 x1 F A B i j (some (fr d)) (some (fr p))) 5 = .ok (.int i) (cE x0 x1 F A B i j (some (fr d)) (some (fr p))) := fun F A B => rv_int _ _ _ rfl
    have r6 : ∀ F A B, readV (cE x0 x1 F A B i j (some (fr d)) (some (fr p))) 6 = .ok (.int j) (cE x0 x1 F A B i j (some (fr d)) (some (fr p))) := fun F A B => rv_int _ _ _ rfl
    have h1 : asgTg C (.ix 3 (.var 5)) (fr a2) (cE x0 x1 F' A B i j (some (fr d)) (some (fr p))) = .ok () (cE x0 x1 F' A' B i j (some (fr d)) (some (fr p))) := by
      rw [x_asgTg_ix, x_ev_var, rv_int _ _ _ rfl, R.bind_ok, g1]; rfl
    have h2 : asgTg C (.ix 4 (.var 6)) (fr b2) (cE x0 x1 F' A' B i j (some (fr d)) (some (fr p))) = .ok () (cE x0 x1 F' A' B' i j (some (fr d)) (some (fr p))) := by
      rw [x_asgTg_ix, x_ev_var, rv_int _ _ _ rfl, R.bind_ok, g2]; rfl
    have h3 : asgTg C (.tp (.cons (.ix 3 (.var 5)) (.cons (.ix 4 (.var 6)) .nil))) (.tup [fr a2, fr b2]) (cE x0 x1 F' A B i j (some (fr d)) (some (fr p))) = .ok () (cE x0 x1 F' A' B' i j (some (fr d)) (some (fr p))) := by
      show (asgTg C (.ix 3 (.var 5)) (fr a2) _).bind (fun _ e => (asgTg C (.ix 4 (.var 6)) (fr b2) e).bind fun _ e => .ok () e) = _
      rw [h1, R.bind_ok, h2, R.bind_ok]
    have r8 : readV (cE x0 x1 F' A B i j (some (fr d)) (some (fr p))) 8 = .ok (fr p) (cE x0 x1 F' A B i j (some (fr d)) (some (fr p))) := rd_fr rfl
    simp only [x_ex_asg, x_ev_tup, x_ev_call, x_evs_cons, x_evs_nil, e3, e4, x_ev_var, r8, R.bind_ok, frzs_frfr, c2, c3, bind_ok0, h3]
  have t5 : ex C (.ife (.cmp .eq (.idx (.ix 3 (.var 5)) (.int 0)) (.int 0)) (.cons (.aug 5 .add (.int 1)) .nil) (.cons (.aug 6 .add (.int 1)) .nil)) (cE x0 x1 F' A' B' i j (some (fr d)) (some (fr p))) = .ok .nx (cE x0 x1 F' A' B' (if a2 = 0 then i + 1 else i) (if a2 = 0 then j else j + 1) (some (fr d)) (some (fr p))) := by
    have g1 : ev C (.cmp .eq (.idx (.ix 3 (.var 5)) (.int 0)) (.int 0)) (cE x0 x1 F' A' B' i j (some (fr d)) (some (fr p))) = .ok (.bl (decide (a2 = 0))) (cE x0 x1 F' A' B' i j (some (fr d)) (some (fr p))) := by
      rw [← num_zero, x_ev_cmp, x_ev_idx, e6, R.bind_ok, x_ev_int, R.bind_ok, num_at]
      show (fz (.int a2.num) _).bind _ = _
      rw [show ∀ e, fz (.int a2.num) e = .ok (.int a2.num) e from fun _ => rfl, R.bind_ok, x_ev_int, R.bind_ok, cmpInt]; rfl
    rw [x_ex_ife, g1, R.bind_ok]
    by_cases h : a2 = 0
    · rw [decide_eq_true h, if_pos h, if_pos h]
      show exs C (.cons (.aug 5 .add (.int 1)) .nil) _ = _
      rw [exs_nx (e1 := cE x0 x1 F' A' B' (i + 1) j (some (fr d)) (some (fr p)))]
      · simp
      · simp [has, gt, iop, setNm, hio]
    · rw [decide_eq_false h, if_neg h, if_neg h]
      show exs C (.cons (.aug 6 .add (.int 1)) .nil) _ = _
      rw [exs_nx (e1 := cE x0 x1 F' A' B' i (j + 1) (some (fr d)) (some (fr p)))]
      · simp
      · simp [has, gt, iop, setNm, hio]
  unfold Tx.cornerB
  rw [exs_nx t1, exs_nx t2, exs_nx t3, exs_nx t4, exs_nx t5]
  simp
end Iv
set_option Elab.async false
set_option linter.all false
set_option maxRecDepth 100000
set_option exponentiation.threshold 20000
namespace Iv
open PySem
def rmax (p q : Rat) : Rat := if q < p then p else q
def rmin (p q : Rat) : Rat := if p < q then p else q
/-- the sum of the first i -/
def upto (a : List Rat) (i : Nat) : Rat := tot (a.take i)
/-- what the corner rule moves from i to j -/
def crn (a b : List Rat) (i j : Nat) : Rat := if rmax (upto a i) (upto b j) < rmin (upto b (j + 1)) (upto a (i + 1)) then rmin (upto b (j + 1)) (upto a (i + 1)) - rmax (upto a i) (upto b j) else 0
def crnT (a b : List Rat) : List (List Rat) := (List.range a.length).map fun i => (List.range b.length).map fun j => crn a b i j
theorem upto_succ {a : List Rat} {i : Nat} (h : i < a.length) : upto a (i + 1) = upto a i + a.getD i 0 := by
  unfold upto
  rw [List.take_succ, List.getElem?_eq_getElem h]
  show tot (a.take i ++ [a[i]]) = _
  rw [tot_app, List.getD_eq_getElem?_getD, List.getElem?_eq_getElem h]; rfl
theorem upto_le {a : List Rat} (h0 : ∀ q ∈ a, 0 ≤ q) {i : Nat} (h : i < a.length) : upto a i ≤ upto a (i + 1) := by
  rw [upto_succ h]
  have := h0 _ (getD_mem h)
  grind
theorem upto_mono {a : List Rat} (h0 : ∀ q ∈ a, 0 ≤ q) {i : Nat} : ∀ {j : Nat}, i ≤ j → j ≤ a.length → upto a i ≤ upto a j
  | 0, h, _ => by rw [Nat.le_zero.mp h]; exact Rat.le_refl
  | j + 1, h, hj => by
    rcases Nat.lt_or_ge j i with g | g
    · rw [show i = j + 1 by omega]; exact Rat.le_refl
    · exact Rat.le_trans (upto_mono h0 g (by omega)) (upto_le h0 (by omega))
def at2 (F : List (List Rat)) (i j : Nat) : Rat := (F.getD i []).getD j 0
structure CInv (a b : List Rat) (F : List (List Rat)) (A B : List Rat) (i j : Nat) (P : Rat) : Prop where
  hi : i ≤ a.length
  hj : j ≤ b.length
  hF : Shp a.length b.length F
  hA : A.length = a.length
  hB : B.length = b.length
  hP : P = upto a i ∨ P = upto b j
  ua : upto a i ≤ P
  ub : upto b j ≤ P
  va : i < a.length → P ≤ upto a (i + 1)
  vb : j < b.length → P ≤ upto b (j + 1)
  qa : i < a.length → A.getD i 0 = upto a (i + 1) - P
  qb : j < b.length → B.getD j 0 = upto b (j + 1) - P
  ra : ∀ k, i < k → A.getD k 0 = a.getD k 0
  rb : ∀ k, j < k → B.getD k 0 = b.getD k 0
  fd : ∀ k l, k < a.length → l < b.length → at2 F k l = if k < i ∨ l < j then crn a b k l else 0
theorem getD_set_self {α : Type} {l : List α} {i : Nat} {d x : α} (h : i < l.length) : (l.set i x).getD i d = x := by
  rw [List.getD_eq_getElem?_getD, List.getElem?_set_self h]; rfl
theorem getD_set_ne {α : Type} {l : List α} {i k : Nat} {d x : α} (h : i ≠ k) : (l.set i x).getD k d = l.getD k d := by
  rw [List.getD_eq_getElem?_getD, List.getElem?_set_ne h, List.getD_eq_getElem?_getD]
theorem at2_set {F : List (List Rat)} {i j k l : Nat} {q : Rat} (hi : i < F.length) (hj : j < (F.getD i []).length) : at2 (F.set i ((F.getD i []).set j q)) k l = if k = i ∧ l = j then q else at2 F k l := by
  unfold at2
  by_cases hk : k = i
  · subst hk
    rw [getD_set_self hi]
    by_cases hl : l = j
    · subst hl
      rw [getD_set_self hj, if_pos ⟨rfl, rfl⟩]
    · rw [getD_set_ne (fun e => hl e.symm), if_neg (fun e => hl e.2)]
  · rw [getD_set_ne (fun e => hk e.symm), if_neg (fun e => hk e.1)]
theorem CInv.step {a b A B : List Rat} {F : List (List Rat)} {i j : Nat} {P : Rat} (ha : ∀ q ∈ a, 0 ≤ q) (hb : ∀ q ∈ b, 0 ≤ q) (h : CInv a b F A B i j P) (hi : i < a.length) (hj : j < b.length) :
    CInv a b (F.set i ((F.getD i []).set j (part (A.getD i 0) (B.getD j 0)))) (A.set i (A.getD i 0 - part (A.getD i 0) (B.getD j 0))) (B.set j (B.getD j 0 - part (A.getD i 0) (B.getD j 0)))
      (if A.getD i 0 - part (A.getD i 0) (B.getD j 0) = 0 then i + 1 else i) (if A.getD i 0 - part (A.getD i 0) (B.getD j 0) = 0 then j else j + 1) (P + part (A.getD i 0) (B.getD j 0)) := by
  obtain ⟨_, _, hF, hA, hB, hP, ua, ub, va, vb, qa, qb, ra, rb, fd⟩ := h
  have va := va hi
  have vb := vb hj
  have qa := qa hi
  have qb := qb hj
  have hFl : i < F.length := by rw [hF.1]; exact hi
  have hFr : j < (F.getD i []).length := by rw [hF.row hi]; exact hj
  have hcell : crn a b i j = part (A.getD i 0) (B.getD j 0) := by
    rw [qa, qb]
    unfold crn rmax rmin part
    grind
  have hpc := part_cases (A.getD i 0) (B.getD j 0)
  have fd2 : ∀ k l, k < a.length → l < b.length → at2 (F.set i ((F.getD i []).set j (part (A.getD i 0) (B.getD j 0)))) k l = if (k < i ∨ l < j) ∨ (k = i ∧ l = j) then crn a b k l else 0 := by
    intro k l hk hl
    rw [at2_set hFl hFr]
    by_cases he : k = i ∧ l = j
    · rw [if_pos he, if_pos (.inr he), he.1, he.2, hcell]
    · rw [if_neg he, fd k l hk hl]
      by_cases hq : k < i ∨ l < j
      · rw [if_pos hq, if_pos (.inl hq)]
      · rw [if_neg hq, if_neg (fun g => g.elim hq he)]
  have hF2 : Shp a.length b.length (F.set i ((F.getD i []).set j (part (A.getD i 0) (B.getD j 0)))) := by
    refine ⟨by rw [List.length_set]; exact hF.1, fun r hr => ?_⟩
    rcases List.mem_or_eq_of_mem_set hr with g | g
    · exact hF.2 r g
    · rw [g, List.length_set]; exact hF.row hi
  generalize hp : part (A.getD i 0) (B.getD j 0) = p at *
  by_cases hz : A.getD i 0 - p = 0
  · rw [if_pos hz, if_pos hz]
    have hP' : P + p = upto a (i + 1) := by grind
    have hle : P + p ≤ upto b (j + 1) := by grind
    have hsb : upto b j ≤ P + p := by grind
    refine ⟨by omega, by omega, hF2, by rw [List.length_set]; exact hA, by rw [List.length_set]; exact hB, .inl hP', by rw [hP']; exact Rat.le_refl, hsb, fun h => ?_, fun _ => hle, fun h => ?_, fun _ => ?_, fun k hk => ?_, fun k hk => ?_, fun k l hk hl => ?_⟩
    · rw [hP']; exact upto_le ha h
    · rw [getD_set_ne (by omega), ra _ (by omega), hP', upto_succ h]; grind
    · rw [getD_set_self (by omega), qb]; grind
    · rw [getD_set_ne (by omega)]; exact ra _ (by omega)
    · rw [getD_set_ne (by omega)]; exact rb _ hk
    · rw [fd2 k l hk hl]
      by_cases h1 : (k < i ∨ l < j) ∨ k = i ∧ l = j
      · rw [if_pos h1, if_pos (by omega)]
      · rw [if_neg h1]
        by_cases h2 : k < i + 1 ∨ l < j
        · rw [if_pos h2]
          obtain rfl : k = i := by omega
          have h3 := upto_mono hb (show j + 1 ≤ l by omega) (by omega)
          have h4 := upto_le hb hl
          have h5 := upto_le ha hk
          unfold crn rmax rmin
          grind
        · rw [if_neg h2]
  · rw [if_neg hz, if_neg hz]
    have hP' : P + p = upto b (j + 1) := by grind
    have hle : P + p ≤ upto a (i + 1) := by grind
    have hsb : upto a i ≤ P + p := by grind
    refine ⟨by omega, by omega, hF2, by rw [List.length_set]; exact hA, by rw [List.length_set]; exact hB, .inr hP', hsb, by rw [hP']; exact Rat.le_refl, fun _ => hle, fun h => ?_, fun _ => ?_, fun h => ?_, fun k hk => ?_, fun k hk => ?_, fun k l hk hl => ?_⟩
    · rw [hP']; exact upto_le hb h
    · rw [getD_set_self (by omega), qa]; grind
    · rw [getD_set_ne (by omega), rb _ (by omega), hP', upto_succ h]; grind
    · rw [getD_set_ne (by omega)]; exact ra _ hk
    · rw [getD_set_ne (by omega)]; exact rb _ (by omega)
    · rw [fd2 k l hk hl]
      by_cases h1 : (k < i ∨ l < j) ∨ k = i ∧ l = j
      · rw [if_pos h1, if_pos (by omega)]
      · rw [if_neg h1]
        by_cases h2 : k < i ∨ l < j + 1
        · rw [if_pos h2]
          obtain rfl : l = j := by omega
          have h3 := upto_mono ha (show i + 1 ≤ k by omega) (by omega)
          have h4 := upto_le ha hk
          have h5 := upto_le hb hl
          unfold crn rmax rmin
          grind
        · rw [if_neg h2]
end Iv
set_option Elab.async false
set_option linter.all false
set_option maxRecDepth 100000
set_option exponentiation.threshold 20000
namespace Iv
open PySem
def zerosT (n m : Nat) : List (List Rat) := List.replicate n (List.replicate m 0)
theorem upto_zero (a : List Rat) : upto a 0 = 0 := by unfold upto; rw [List.take_zero]; rfl
theorem at2_zeros {n m k l : Nat} (hk : k < n) (hl : l < m) : at2 (zerosT n m) k l = 0 := by
  unfold at2 zerosT
  have h1 : (List.replicate n (List.replicate m (0 : Rat))).getD k [] = List.replicate m 0 := by
    rw [List.getD_eq_getElem?_getD, List.getElem?_replicate_of_lt hk]; rfl
  rw [h1, List.getD_eq_getElem?_getD, List.getElem?_replicate_of_lt hl]; rfl
theorem CInv.start {a b : List Rat} (ha : ∀ q ∈ a, 0 ≤ q) (hb : ∀ q ∈ b, 0 ≤ q) : CInv a b (zerosT a.length b.length) a b 0 0 0 := by
  refine ⟨by omega, by omega, ⟨by simp [zerosT], fun r hr => ?_⟩, rfl, rfl, .inl (upto_zero a).symm, by rw [upto_zero]; exact Rat.le_refl, by rw [upto_zero]; exact Rat.le_refl, fun h => ?_, fun h => ?_, fun h => ?_, fun h => ?_, fun _ _ => rfl, fun _ _ => rfl, fun k l hk hl => ?_⟩
  · rw [List.eq_of_mem_replicate hr, List.length_replicate]
  · rw [← upto_zero a]; exact upto_le ha h
  · rw [← upto_zero b]; exact upto_le hb h
  · rw [upto_succ h, upto_zero]; grind
  · rw [upto_succ h, upto_zero]; grind
  · rw [at2_zeros hk hl, if_neg (by omega)]
theorem ext2 {F G : List (List Rat)} {n m : Nat} (hF : Shp n m F) (hG : Shp n m G) (h : ∀ k l, k < n → l < m → at2 F k l = at2 G k l) : F = G := by
  refine List.ext_getElem (by rw [hF.1, hG.1]) fun k h1 h2 => ?_
  have hk : k < n := by rw [← hF.1]; exact h1
  refine List.ext_getElem (by rw [hF.2 _ (List.getElem_mem h1), hG.2 _ (List.getElem_mem h2)]) fun l h3 h4 => ?_
  have hl : l < m := by rw [← hF.2 _ (List.getElem_mem h1)]; exact h3
  have := h k l hk hl
  unfold at2 at this
  rw [List.getD_eq_getElem?_getD, List.getD_eq_getElem?_getD, List.getElem?_eq_getElem h1, List.getD_eq_getElem?_getD, List.getD_eq_getElem?_getD, List.getElem?_eq_getElem h2] at this
  simp only [Option.getD_some] at this
  rw [List.getElem?_eq_getElem h3, List.getElem?_eq_getElem h4] at this
  simpa using this
theorem at2_gen {n m k l : Nat} (f : Nat → Nat → Rat) (hk : k < n) (hl : l < m) : at2 ((List.range n).map fun i => (List.range m).map fun j => f i j) k l = f k l := by
  unfold at2
  rw [List.getD_eq_getElem?_getD, List.getD_eq_getElem?_getD, List.getElem?_map, List.getElem?_range hk]
  show (((List.range m).map fun j => f k j)[l]?).getD 0 = _
  rw [List.getElem?_map, List.getElem?_range hl]; rfl
theorem gen_shp (n m : Nat) (f : Nat → Nat → Rat) : Shp n m ((List.range n).map fun i => (List.range m).map fun j => f i j) := by
  refine ⟨by simp, fun r hr => ?_⟩
  obtain ⟨i, _, rfl⟩ := List.mem_map.mp hr
  simp
theorem CInv.done {a b A B : List Rat} {F : List (List Rat)} {i j : Nat} {P : Rat} (h : CInv a b F A B i j P) (he : i = a.length ∨ j = b.length) : F = crnT a b := by
  refine ext2 h.hF (gen_shp _ _ _) fun k l hk hl => ?_
  rw [h.fd k l hk hl, if_pos (by omega)]
  exact (at2_gen _ hk hl).symm
/-- what is at hand while the loop runs stays small -/
def UpOk (a : List Rat) : Prop := ∀ i ≤ a.length, Wt 1000 (upto a i)
theorem CInv.small {a b A B : List Rat} {F : List (List Rat)} {i j : Nat} {P : Rat} (ha : UpOk a) (hb : UpOk b) (h : CInv a b F A B i j P) (hi : i < a.length) (hj : j < b.length) : Sm (A.getD i 0) ∧ Sm (B.getD j 0) := by
  have hp : Wt 1000 P := by 
    rcases h.hP with e | e
    · rw [e]; exact ha i (by omega)
    · rw [e]; exact hb j (by omega)
  rw [h.qa hi, h.qb hj]
  exact ⟨((ha (i + 1) (by omega)).sub hp).mono (by omega), ((hb (j + 1) (by omega)).sub hp).mono (by omega)⟩
theorem prim_len_lq (l : List Rat) : Iv.prim .len (lq l) = some (.int l.length) := by simp [Iv.prim, lq]
theorem corner_c {C : Cn} {F : List (List Rat)} {A B : List Rat} {i j : Nat} {x0 x1 x7 x8 : Option T} : ev C (.and (.cmpL .lt 5 (.primv .len 3)) (.cmpL .lt 6 (.primv .len 4))) (cE x0 x1 F A B i j x7 x8) = .ok (.bl (decide (i < A.length ∧ j < B.length))) (cE x0 x1 F A B i j x7 x8) := by
  have h1 : ev C (.cmpL .lt 5 (.primv .len 3)) (cE x0 x1 F A B i j x7 x8) = .ok (.bl (decide (i < A.length))) (cE x0 x1 F A B i j x7 x8) := by
    simp [has, gt, prim_len_lq, cmpLtInt, boolR]
  have h2 : ev C (.cmpL .lt 6 (.primv .len 4)) (cE x0 x1 F A B i j x7 x8) = .ok (.bl (decide (j < B.length))) (cE x0 x1 F A B i j x7 x8) := by
    simp [has, gt, prim_len_lq, cmpLtInt, boolR]
  rw [x_ev_and, h1, R.bind_ok]
  by_cases hi : i < A.length
  · rw [decide_eq_true hi]
    show ev C (.cmpL .lt 6 (.primv .len 4)) _ = _
    rw [h2]
    simp [hi]
  · rw [decide_eq_false hi]
    simp [hi]
theorem corner_loop {C : Cn} {m : Nat} (hio : C.io = false) (hm : IsMinus (C.call m)) {a b : List Rat} (ha : ∀ q ∈ a, 0 ≤ q) (hb : ∀ q ∈ b, 0 ≤ q) (ua : UpOk a) (ub : UpOk b) {x0 x1 : Option T} : ∀ (d i j : Nat) (F : List (List Rat)) (A B : List Rat) (P : Rat) (x7 x8 : Option T) (N : Nat), (a.length - i) + (b.length - j) ≤ d → d < N → CInv a b F A B i j P →
    ∃ A' B' i' j' x7' x8', whlLoop (ev C (.and (.cmpL .lt 5 (.primv .len 3)) (.cmpL .lt 6 (.primv .len 4)))) (exs C (Tx.cornerB m)) N (cE x0 x1 F A B i j x7 x8) = .ok .nx (cE x0 x1 (crnT a b) A' B' i' j' x7' x8') := by
  intro d
  induction d with
  | zero =>
    intro i j F A B P x7 x8 N hd hN h
    obtain ⟨N, rfl⟩ : ∃ k, N = k + 1 := ⟨N - 1, by omega⟩
    refine ⟨A, B, i, j, x7, x8, ?_⟩
    have hc := corner_c (C := C) (F := F) (A := A) (B := B) (i := i) (j := j) (x0 := x0) (x1 := x1) (x7 := x7) (x8 := x8)
    have h1 := h.hA
    have h2 := h.hi
    rw [decide_eq_false (by omega)] at hc
    rw [whl_stop hc, h.done (.inl (by omega))]
  | succ d ih =>
    intro i j F A B P x7 x8 N hd hN h
    obtain ⟨N, rfl⟩ : ∃ k, N = k + 1 := ⟨N - 1, by omega⟩
    have hc := corner_c (C := C) (F := F) (A := A) (B := B) (i := i) (j := j) (x0 := x0) (x1 := x1) (x7 := x7) (x8 := x8)
    have h1 := h.hA
    have h2 := h.hi
    have h3 := h.hB
    have h4 := h.hj
    by_cases hb0 : i < a.length ∧ j < b.length
    · rw [decide_eq_true (by omega)] at hc
      obtain ⟨hi, hj⟩ := hb0
      obtain ⟨w1, w2⟩ := h.small ua ub hi hj
      have hbd := cornerB_is hio hm (x0 := x0) (x1 := x1) (x7 := x7) (x8 := x8) (F := F) (A := A) (B := B) (i := i) (j := j) (by omega) (by omega) (by rw [h.hF.1]; exact hi) (by rw [h.hF.row hi]; exact hj) w1 w2
      rw [whl_step hc hbd]
      refine ih _ _ _ _ _ _ _ _ _ ?_ (by omega) (h.step ha hb hi hj)
      split <;> omega
    · rw [decide_eq_false (by omega)] at hc
      refine ⟨A, B, i, j, x7, x8, ?_⟩
      rw [whl_stop hc, h.done (by omega)]
end Iv
set_option Elab.async false
set_option linter.all false
set_option maxRecDepth 100000
set_option exponentiation.threshold 20000
namespace Tx
open Iv
def check_like_sums (w s : Nat) : Ss :=
    (.cons (.exp (.call w (.cons (.var 0) .nil)))
    (.cons (.exp (.call w (.cons (.var 1) .nil)))
    (.cons (.ife (.cmp .ne (.call s (.cons (.primv .list 0) .nil)) (.call s (.cons (.primv .list 1) .nil))) (.cons .never
    .nil) .nil)
    .nil)))
end Tx
namespace Iv
open PySem
/-- a check that lets t through -/
def Lets (f : List T → Cr) (t : T) : Prop := f [t] = ok0 .non
def IsLike (f : List T → Cr) : Prop := ∀ a b : List Rat, SumOk a → SumOk b → (∀ q ∈ a, Sm q) → (∀ q ∈ b, Sm q) → (∀ q ∈ a, 0 ≤ q) → (∀ q ∈ b, 0 ≤ q) → a ≠ [] → b ≠ [] → a.length ≤ 1000 → b.length ≤ 1000 → tot a = tot b → f [frs a, frs b] = ok0 .non
def IsChkW (f : List T → Cr) : Prop := ∀ a : List Rat, (∀ q ∈ a, 0 ≤ q) → (∀ q ∈ a, Sm q) → a ≠ [] → a.length ≤ 1000 → Lets f (frs a)
theorem ev_call1 {C : Cn} {f i : Nat} {e : Env} {a t : T} (ha : readV e i = .ok a e) (hf : frzs [a] = [a]) (h : C.call f [a] = ok0 t) : ev C (.call f (.cons (.var i) .nil)) e = .ok t e := by
  rw [x_ev_call, x_evs_cons, x_ev_var, ha, R.bind_ok, x_evs_nil, R.bind_ok, R.bind_ok, hf, h]; rfl
theorem like_is {C : Cn} {w s : Nat} (hio : C.io = false) (hw : IsChkW (C.call w)) (hs : IsSum (C.call s)) : IsLike (run C 2 (Tx.check_like_sums w s)) := by
  intro a b sa sb wa wb pa pb na nb la lb he
  refine run_nx hio (e := [some (frs a), some (frs b)]) ?_
  unfold Tx.check_like_sums startE
  show exs C _ [some (frs a), some (frs b)] = _
  have h1 := hw a pa wa na la
  have h2 := hw b pb wb nb lb
  have c1 := hs a (.lst false (a.map fr)) (.inl rfl) sa wa
  have c2 := hs b (.lst false (b.map fr)) (.inl rfl) sb wb
  rw [exs_nx (e1 := [some (frs a), some (frs b)]) (by rw [x_ex_exp, ev_call1 (rd_frs (j := 0) rfl) (by simp [frzs]) h1]; rfl), exs_nx (e1 := [some (frs a), some (frs b)]) (by rw [x_ex_exp, ev_call1 (rd_frs (j := 1) rfl) (by simp [frzs]) h2]; rfl)]
  have hne : cmp .ne (fr (tot a)) (fr (tot b)) = some false := by
    rw [cmpNe (shp_fr _) (shp_fr _), he, (eqT_frq _ _).mpr rfl]; rfl
  rw [exs_nx (e1 := [some (frs a), some (frs b)])]
  · simp
  · generalize tot a = p at *
    generalize tot b = q at *
    simp [gt, prim_list_frs, frzs, frz, c1, c2, hne, boolR]
theorem lq_rep (n : Nat) (q : Rat) : lq (List.replicate n q) = .lst true (List.replicate n (fr q)) := by unfold lq; rw [List.map_replicate]
theorem lq_zero (n : Nat) : lq (List.replicate n 0) = .lst true (List.replicate n (.tup [.int 0, .int 1])) := lq_rep n 0
def lf (l : List Rat) : T := .lst false (l.map fr)
theorem frzs_lq (m : List (List Rat)) : frzs (m.map lq) = m.map lf := by
  induction m with
  | nil => rfl
  | cons l m ih =>
    rw [List.map_cons, frzs, ih]
    show T.lst false (frzs (l.map fr)) :: _ = _
    rw [frzs_frl]; rfl
theorem isFs_lf (m : List (List Rat)) : isFs (m.map lf) = true := isFs_map fun l _ => by
  show (!false && isFs (l.map fr)) = true
  rw [isFs_frs]; rfl
theorem srs_mt {C : Cn} {j : Nat} {e : Env} {m : List (List Rat)} (h : gt e j = some (mt m)) : srs C (.seq (.var j)) e = .ok (m.map lf) (e.set j (some (.lst false (m.map lf)))) := by
  have h1 : frz (mt m) = .lst false (m.map lf) := by
    show T.lst false (frzs (m.map lq)) = _
    rw [frzs_lq]
  have h2 : readV e j = .ok (.lst false (m.map lf)) (e.set j (some (.lst false (m.map lf)))) := by
    rw [readV, h]
    show (if isF (mt m) = true then R.ok (mt m) e else .ok (frz (mt m)) (e.set j (some (frz (mt m))))) = _
    rw [h1, if_neg (by show ¬ (!true && _) = true; simp)]
  rw [srs, x_ev_var, h2, R.bind_ok]
  show R.ok (frzs (m.map lf)) _ = _
  rw [frzs_of _ (isFs_lf m)]
/-! ### the corner coupling -/
def IsCorner (f : List T → Cr) : Prop := ∀ a b : List Rat, SumOk a → SumOk b → (∀ q ∈ a, Sm q) → (∀ q ∈ b, Sm q) → (∀ q ∈ a, 0 ≤ q) → (∀ q ∈ b, 0 ≤ q) → a ≠ [] → b ≠ [] → a.length ≤ 1000 → b.length ≤ 1000 → tot a = tot b → UpOk a → UpOk b → f [frs a, frs b] = ok0 (tab (crnT a b))
theorem corner_is {C : Cn} {m c : Nat} (hio : C.io = false) (hm : IsMinus (C.call m)) (hc : IsLike (C.call c)) : IsCorner (run C 11 (Tx.corner_coupling m c)) := by
  intro a b sa sb wa wb pa pb na nb la lb he ua ub
  have hlike := hc a b sa sb wa wb pa pb na nb la lb he
  obtain ⟨A', B', i', j', x7', x8', hloop⟩ := corner_loop hio hm pa pb ua ub (x0 := some (frs a)) (x1 := some (frs b)) (a.length + b.length) 0 0 _ a b 0 none none FU (by omega) (by unfold FU; omega) (CInv.start pa pb)
  refine run_rt hio (e := [some (frs a), some (frs b), some (.lst false ((crnT a b).map lf)), some (lq A'), some (lq B'), some (.int i'), some (.int j'), x7', x8', none, none]) ?_
  unfold Tx.corner_coupling startE
  show exs C _ [some (frs a), some (frs b), none, none, none, none, none, none, none, none, none] = _
  have s1 : ex C (.exp (.call c (.cons (.var 0) (.cons (.var 1) .nil)))) [some (frs a), some (frs b), none, none, none, none, none, none, none, none, none] = .ok .nx [some (frs a), some (frs b), none, none, none, none, none, none, none, none, none] := by
    rw [x_ex_exp, ev_call2 (rd_frs (j := 0) rfl) (rd_frs (j := 1) rfl) (by simp [frzs]) hlike]; rfl
  have s2 : ex C (.par [3, 4] (.cons (.primv .list 0) (.cons (.primv .list 1) .nil))) [some (frs a), some (frs b), none, none, none, none, none, none, none, none, none] = .ok .nx [some (frs a), some (frs b), none, some (lq a), some (lq b), none, none, none, none, none, none] := by
    simp [gt, prim_list_frs, parS, setNm, hio, lq]
  have s3 : ex C (.asg (.nm 2) (.lc [9] (.nm 9) (.seq (.var 0)) .non (.bin .mul (.lst (.cons (.tup (.cons (.int 0) (.cons (.int 1) .nil))) .nil)) (.primv .len 1)))) [some (frs a), some (frs b), none, some (lq a), some (lq b), none, none, none, none, none, none] = .ok .nx [some (frs a), some (frs b), some (mt (zerosT a.length b.length)), some (lq a), some (lq b), none, none, none, none, none, none] := by
    have hl := lcA fr (C := C) (s := .seq (.var 0)) (x := .bin .mul (.lst (.cons (.tup (.cons (.int 0) (.cons (.int 1) .nil))) .nil)) (.primv .len 1)) (i := 9) (l := a) (e := [some (frs a), some (frs b), none, some (lq a), some (lq b), none, none, none, none, none, none]) (e0 := [some (frs a), some (frs b), none, some (lq a), some (lq b), none, none, none, none, none, none]) (fun _ => lq (List.replicate b.length 0)) (srs_frs rfl) (by simp) hio rfl (by have : SZ = 16777216 := rfl; omega) fun q _ => by
      have hb := bin_rep (.tup [.int 0, .int 1]) rfl lb
      have e1 : lq (List.replicate b.length 0) = .lst true (List.replicate b.length (.tup [.int 0, .int 1])) := lq_zero _
      rw [e1]
      generalize T.lst true (List.replicate b.length (.tup [.int 0, .int 1])) = z at *
      have g1 : ∀ e, ev C (.lst (.cons (.tup (.cons (.int 0) (.cons (.int 1) .nil))) .nil)) e = .ok (.lst true [.tup [.int 0, .int 1]]) e := by
        intro e; simp [frzs, frz]
      have g2 : ∀ y, ev C (.primv .len 1) (some (frs a) :: some (frs b) :: y) = .ok (.int b.length) (some (frs a) :: some (frs b) :: y) := by
        intro y; simp [gt, prim_len_frs]
      rw [x_ev_bin, g1, R.bind_ok]
      show (ev C (.primv .len 1) (some (frs a) :: some (frs b) :: _)).bind _ = _
      rw [g2, R.bind_ok, hb]; rfl
    have e2 : T.lst true (a.map fun _ => lq (List.replicate b.length 0)) = mt (zerosT a.length b.length) := by
      unfold mt zerosT
      rw [List.map_replicate, List.map_const']
    rw [x_ex_asg, hl, R.bind_ok, e2]
    generalize mt (zerosT a.length b.length) = Z at *
    rw [asg_nm hio (by simp)]; rfl
  have s4 : ex C (.asg (.tp (.cons (.nm 5) (.cons (.nm 6) .nil))) (.tup (.cons (.int 0) (.cons (.int 0) .nil)))) [some (frs a), some (frs b), some (mt (zerosT a.length b.length)), some (lq a), some (lq b), none, none, none, none, none, none] = .ok .nx (cE (some (frs a)) (some (frs b)) (zerosT a.length b.length) a b 0 0 none none) := by
    simp [setNm, hio, Tgs.len]
  have s5 : ex C (.whl (.and (.cmpL .lt 5 (.primv .len 3)) (.cmpL .lt 6 (.primv .len 4))) (Tx.cornerB m)) (cE (some (frs a)) (some (frs b)) (zerosT a.length b.length) a b 0 0 none none) = .ok .nx (cE (some (frs a)) (some (frs b)) (crnT a b) A' B' i' j' x7' x8') := by
    rw [ex]; exact hloop
  rw [exs_nx s1, exs_nx s2, exs_nx s3, exs_nx s4, exs_nx s5]
  refine exs_rt ?_
  have hl := lcA lf (C := C) (s := .seq (.var 2)) (x := .primv .tuple 10) (i := 10) (l := crnT a b) (e := cE (some (frs a)) (some (frs b)) (crnT a b) A' B' i' j' x7' x8') (e0 := [some (frs a), some (frs b), some (.lst false ((crnT a b).map lf)), some (lq A'), some (lq B'), some (.int i'), some (.int j'), x7', x8', none, none]) frs (srs_mt rfl) (by simp) hio rfl (by have : SZ = 16777216 := rfl; simp [crnT]; omega) fun l _ => by
    have h1 : Iv.prim .tuple (lf l) = some (frs l) := prim_tuple (isFs_frs l)
    simp [gt, h1]
  rw [x_ex_ret, x_ev_prim, hl, R.bind_ok, prim_tuple (isFs_tab _)]; rfl
end Iv
set_option Elab.async false
set_option linter.all false
set_option maxRecDepth 100000
set_option exponentiation.threshold 20000
namespace Iv
open PySem
/-! ### slots -/
theorem gt_self {e : Env} {i : Nat} {x : Option T} (h : i < e.length) : gt (e.set i x) i = x := by
  unfold gt; rw [List.getElem?_set_self h]; rfl
theorem gt_ne {e : Env} {i j : Nat} {x : Option T} (h : i ≠ j) : gt (e.set i x) j = gt e j := by
  unfold gt; rw [List.getElem?_set_ne h]
theorem set_gt {e : Env} {i : Nat} (h : i < e.length) : e.set i (gt e i) = e := by
  refine List.ext_getElem? fun k => ?_
  by_cases hk : i = k
  · subst hk
    rw [List.getElem?_set_self h]
    unfold gt
    rw [List.getElem?_eq_getElem h]; rfl
  · rw [List.getElem?_set_ne hk]
theorem rd_F {e : Env} {j : Nat} {t : T} (h : gt e j = some t) (hf : isF t = true) : readV e j = .ok t e := by
  rw [readV, h]
  show (if isF t = true then _ else _) = _
  rw [if_pos hf]
/-! ### loops with an invariant -/
theorem lcLoop_gen {α : Type} {f : T → Env → R (List T)} {φ : α → T} {g : α → List T} {I : Env → Prop} : ∀ {l : List α} {e : Env}, I e → (∀ a ∈ l, ∀ e, I e → ∃ e', f (φ a) e = .ok (g a) e' ∧ I e') →
    ∃ e', lcLoop f (l.map φ) e = .ok (l.flatMap g) e' ∧ I e'
  | [], e, h, _ => ⟨e, rfl, h⟩
  | a :: l, e, h, hb => by
    obtain ⟨e1, h1, h2⟩ := hb a List.mem_cons_self e h
    obtain ⟨e2, h3, h4⟩ := lcLoop_gen (l := l) h2 fun u hu => hb u (List.mem_cons_of_mem _ hu)
    refine ⟨e2, ?_, h4⟩
    rw [List.map_cons, lcLoop, h1, R.bind_ok, h3, R.bind_ok]; rfl
theorem lcLoop_st {α : Type} {f : T → Env → R (List T)} {φ : α → T} {I : Env → Prop} {W : α → Prop} : ∀ {its : List T} {e : Env}, I e → (∀ t ∈ its, ∀ e, I e → ∃ a e', f t e = .ok [φ a] e' ∧ I e' ∧ W a) →
    ∃ (l : List α) (e' : Env), lcLoop f its e = .ok (l.map φ) e' ∧ I e' ∧ l.length = its.length ∧ ∀ a ∈ l, W a
  | [], e, h, _ => ⟨[], e, rfl, h, rfl, fun a h => by cases h⟩
  | t :: its, e, h, hb => by
    obtain ⟨a, e1, h1, h2, h5⟩ := hb t List.mem_cons_self e h
    obtain ⟨l, e2, h3, h4, h6, h7⟩ := lcLoop_st (its := its) h2 fun u hu => hb u (List.mem_cons_of_mem _ hu)
    refine ⟨a :: l, e2, ?_, h4, by rw [List.length_cons, List.length_cons, h6], fun b hb => ?_⟩
    · rw [lcLoop, h1, R.bind_ok, h3, R.bind_ok]; rfl
    · rcases List.mem_cons.mp hb with rfl | hb
      · exact h5
      · exact h7 b hb
theorem own_ne {e : Env} {i j : Nat} {x : Option T} (h : i ≠ j) (ho : ownOk e [i] = true) : ownOk (e.set j x) [i] = true := by
  unfold ownOk at ho ⊢
  rw [List.all_cons, List.all_nil, Bool.and_true] at ho ⊢
  rw [gt_ne (fun e => h e.symm)]
  exact ho
/-- a comprehension that draws from the list in slot j -/
theorem lcS {α : Type} {C : Cn} {s : Sr} {x : E} {i j : Nat} {e : Env} {its : List T} {P : T → Prop} {W : α → Prop} (φ : α → T) (hij : i ≠ j) (hi : i < e.length) (ho : ownOk e [i] = true) (hg : (C.io && i == 0) = false) (hl : its.length ≤ SZ)
    {tp : T} (hp : P tp) (hs : srs C s (e.set j (some tp)) = .ok its (e.set j (some tp)))
    (hx : ∀ t ∈ its, ∀ tp, P tp → ∃ a tp', P tp' ∧ W a ∧ ev C x ((e.set i (some t)).set j (some tp)) = .ok (φ a) ((e.set i (some t)).set j (some tp'))) :
    ∃ (l : List α) (tp' : T), P tp' ∧ l.length = its.length ∧ (∀ a ∈ l, W a) ∧ ev C (.lc [i] (.nm i) s .non x) (e.set j (some tp)) = .ok (.lst true (l.map φ)) (e.set j (some tp')) := by
  obtain ⟨l, e', h1, ⟨tp', h2, h3⟩, h4, h5⟩ := lcLoop_st (φ := φ) (W := W) (f := fun t e1 => (asgTg C (.nm i) t (Iv.wipe e1 [i])).bind fun _ e2 => (cnd C .non e2).bind fun b e3 => if b = true then (ev C x e3).bind fun y e4 => .ok [y] e4 else .ok [] e3)
    (I := fun e1 => ∃ tp, P tp ∧ e1.set i none = (e.set j (some tp)).set i none) (its := its) (e := e.set j (some tp)) ⟨tp, hp, rfl⟩ fun t ht e1 ⟨tp, hp, he1⟩ => by
      obtain ⟨a, tp', q1, q2, q3⟩ := hx t ht tp hp
      refine ⟨a, (e.set i (some t)).set j (some tp'), ?_, ⟨tp', q1, ?_⟩, q2⟩
      · have hn : ¬ ((e.set j (some tp)).set i none).length ≤ i := by rw [List.length_set, List.length_set]; omega
        show ((asgTg C (.nm i) t (e1.set i none)).bind _) = _
        rw [he1, x_asgTg_nm, setNm, hg, Bool.false_or, if_neg (by simpa using hn), R.bind_ok, x_cnd_non, R.bind_ok, if_pos rfl, List.set_set, List.set_comm _ _ (fun e => hij e.symm), q3, R.bind_ok]
      · rw [List.set_comm _ _ hij, List.set_set]
  refine ⟨l, tp', h2, h4, h5, ?_⟩
  have hlen : (e.set j (some tp)).length = e.length := by rw [List.length_set]
  rw [ev, hs, R.bind_ok, h1]
  show (if _ then _ else _) = _
  rw [if_pos ⟨by rw [List.length_map, h4]; exact hl, own_ne hij ho⟩]
  congr 1
  show (e'.set i (gt (e.set j (some tp)) i)) = _
  rw [gt_ne (fun e => hij e.symm)]
  have : e'.set i (gt e i) = (e'.set i none).set i (gt e i) := by rw [List.set_set]
  rw [this, h3, List.set_set, List.set_comm _ _ (fun e => hij e.symm), set_gt hi]
/-- two fors -/
theorem lc2A {α β : Type} {C : Cn} {s s2 : Sr} {c2 : Eo} {x : E} {i k : Nat} {e : Env} {l : List α} (f : α → T) (h : β → T) (l2 : α → List β) (g : α → β → List T)
    (hik : i ≠ k) (hi : i < e.length) (hk : k < e.length) (hio : C.io = false) (ho : ownOk e [i, k] = true) (hs : srs C s e = .ok (l.map f) e) (hl : (l.flatMap fun a => (l2 a).flatMap (g a)).length ≤ SZ)
    (h2 : ∀ a ∈ l, srs C s2 ((e.set k none).set i (some (f a))) = .ok ((l2 a).map h) ((e.set k none).set i (some (f a))))
    (hx : ∀ a ∈ l, ∀ b ∈ l2 a, ((cnd C c2 ((e.set i (some (f a))).set k (some (h b)))).bind fun q e7 => if q = true then (ev C x e7).bind fun y e8 => .ok [y] e8 else .ok [] e7) = .ok (g a b) ((e.set i (some (f a))).set k (some (h b)))) :
    ev C (.lc2 [i, k] (.nm i) s .non [k] (.nm k) s2 c2 x) e = .ok (.lst true (l.flatMap fun a => (l2 a).flatMap (g a))) e := by
  obtain ⟨e', h1, h3⟩ := lcLoop_gen (φ := f) (g := fun a => (l2 a).flatMap (g a)) (l := l) (e := e) (I := fun e1 => Iv.wipe e1 [i, k] = Iv.wipe e [i, k])
    (f := fun t e1 => (asgTg C (.nm i) t (Iv.wipe e1 [i, k])).bind fun _ e2 => (cnd C .non e2).bind fun b e3 =>
        if b = true then (srs C s2 e3).bind fun its2 e4 =>
          lcLoop (fun t2 e5 => (asgTg C (.nm k) t2 (Iv.wipe e5 [k])).bind fun _ e6 => (cnd C c2 e6).bind fun b2 e7 =>
            if b2 = true then (ev C x e7).bind fun y e8 => .ok [y] e8 else .ok [] e7) its2 e4
        else .ok [] e3) rfl fun a ha e1 he1 => by
      have e2 : Iv.wipe e [i, k] = (e.set k none).set i none := rfl
      have hn : ¬ ((e.set k none).set i none).length ≤ i := by rw [List.length_set, List.length_set]; omega
      obtain ⟨e3, q1, q2⟩ := lcLoop_gen (φ := h) (g := g a) (l := l2 a) (e := (e.set k none).set i (some (f a))) (I := fun e5 => e5.set k none = (e.set k none).set i (some (f a)))
        (f := fun t2 e5 => (asgTg C (.nm k) t2 (Iv.wipe e5 [k])).bind fun _ e6 => (cnd C c2 e6).bind fun b2 e7 =>
            if b2 = true then (ev C x e7).bind fun y e8 => .ok [y] e8 else .ok [] e7)
        (by rw [List.set_comm _ _ hik, List.set_set]) fun b hb e5 he5 => by
          have hn2 : ¬ ((e.set k none).set i (some (f a))).length ≤ k := by rw [List.length_set, List.length_set]; omega
          have hE : ((e.set k none).set i (some (f a))).set k (some (h b)) = (e.set i (some (f a))).set k (some (h b)) := by
            rw [List.set_comm none (some (f a)) (fun e => hik e.symm), List.set_set]
          refine ⟨(e.set i (some (f a))).set k (some (h b)), ?_, ?_⟩
          · show ((asgTg C (.nm k) (h b) (e5.set k none)).bind _) = _
            rw [he5, x_asgTg_nm, setNm, hio, Bool.false_and, Bool.false_or, if_neg (by simpa using hn2), R.bind_ok, hE, ← hx a ha b hb]
          · rw [List.set_set, List.set_comm _ _ hik]
      refine ⟨e3, ?_, ?_⟩
      · show ((asgTg C (.nm i) (f a) (Iv.wipe e1 [i, k])).bind _) = _
        rw [he1, e2, x_asgTg_nm, setNm, hio, Bool.false_and, Bool.false_or, if_neg (by simpa using hn), R.bind_ok, x_cnd_non, R.bind_ok, if_pos rfl, List.set_set, h2 a ha, R.bind_ok, q1]
      · show (e3.set k none).set i none = (e.set k none).set i none
        rw [q2, List.set_set]
  rw [ev, hs, R.bind_ok, h1]
  show (if _ then _ else _) = _
  rw [if_pos ⟨hl, ho⟩, restore_wipe h3]
end Iv
set_option Elab.async false
set_option linter.all false
set_option maxRecDepth 100000
set_option exponentiation.threshold 20000
namespace Tx
open Iv
def least : Ss :=
    (.cons (.par [2, 3] (.cons (.primv .abs 1) (.cons (.primv .abs 0) .nil)))
    (.cons (.whl (.cmpL .ne 3 (.int 0)) (.cons (.par [2, 3] (.cons (.var 3) (.cons (.bin .mod (.primv .int 2) (.var 3)) .nil)))
    .nil))
    (.cons (.ife (.cmpL .lt 1 (.int 0)) (.cons (.asg (.nm 2) (.bin .sub (.int 0) (.var 2)))
    .nil) .nil)
    (.cons (.ret (.tup (.cons (.bin .fdiv (.var 0) (.var 2)) (.cons (.bin .fdiv (.var 1) (.var 2)) .nil))))
    .nil))))
def less : Ss :=
    (.cons (.ret (.cmp .lt (.bin .mul (.ix 0 (.int 0)) (.ix 1 (.int 1))) (.bin .mul (.ix 1 (.int 0)) (.ix 0 (.int 1)))))
    .nil)
def next : Ss :=
    (.cons (.asg (.nm 2) (.ix 0 (.int 2)))
    (.cons (.ife (.cmpL .eq 2 (.int 0)) (.cons (.asg (.nm 3) (.int 0))
    (.cons (.ife (.cmp .lt (.ix 0 (.int 1)) (.prim .len (.ix 0 (.int 0)))) (.cons (.asg (.nm 3) (.prim .abs (.prim .int (.idx (.ix 0 (.int 0)) (.ix 0 (.int 1))))))
    (.cons (.asg (.ix 0 (.int 1)) (.bin .add (.ix 0 (.int 1)) (.int 1)))
    .nil)) .nil)
    (.cons (.asg (.nm 2) (.var 3))
    (.cons (.ife (.cmpL .lt 3 (.bin .pow (.int 10) (.int 18))) (.cons (.asg (.ix 0 (.int 3)) (.bin .mod (.prim .int (.bin .add (.bin .add (.bin .mul (.ix 0 (.int 3)) (.int 69621)) (.bin .mul (.var 3) (.int 40692))) (.int 17))) (.int 2147483647)))
    (.cons (.ret (.bin .mod (.bin .mod (.prim .int (.bin .mul (.prim .int (.bin .fdiv (.ix 0 (.int 3)) (.int 5))) (.int 48271))) (.int 2147483647)) (.var 1)))
    .nil)) .nil)
    .nil)))) .nil)
    (.cons (.asg (.ix 0 (.int 2)) (.bin .fdiv (.var 2) (.var 1)))
    (.cons (.ret (.bin .mod (.primv .int 2) (.var 1)))
    .nil))))
end Tx
namespace Iv
open PySem
/-! ### the law's own fractions -/
theorem gcl_c {C : Cn} (x0 x1 : Option T) (size rest : Nat) : ev C (.cmpL .ne 3 (.int 0)) [x0, x1, some (.int size), some (.int rest)] = .ok (.bl (decide ((0 : Int) < rest))) [x0, x1, some (.int size), some (.int rest)] := by
  have h : cmp .ne (.int (rest : Int)) (.int 0) = some (decide ((0 : Int) < rest)) := by
    rw [cmpNe rfl rfl, eqT_int]
    congr 1
    rw [Bool.eq_iff_iff]; simp; omega
  simp [has, gt, boolR, h]
theorem gcl_b {C : Cn} (x0 x1 : Option T) (size rest : Nat) (h : 0 < rest) : exs C (.cons (.par [2, 3] (.cons (.var 3) (.cons (.bin .mod (.primv .int 2) (.var 3)) .nil))) .nil) [x0, x1, some (.int size), some (.int rest)] = .ok .nx [x0, x1, some (.int rest), some (.int (size % rest : Nat))] := by
  have hne : ¬ (rest : Int) = 0 := by omega
  have hn : rest ≠ 0 := by omega
  rw [← fmod_nat]
  simp [evs, exs, ex, ev, gt, R.bind, readV, isF, Iv.prim, R.of, bin, hn, parS, setNm]
theorem gcl_loop {C : Cn} (x0 x1 : Option T) : ∀ (n size rest m : Nat), rest ≤ size → size * rest < 2 ^ n → n < m →
    whlLoop (ev C (.cmpL .ne 3 (.int 0))) (exs C (.cons (.par [2, 3] (.cons (.var 3) (.cons (.bin .mod (.primv .int 2) (.var 3)) .nil))) .nil)) m [x0, x1, some (.int size), some (.int rest)] =
      .ok .nx [x0, x1, some (.int (Nat.gcd size rest)), some (.int 0)] := by
  intro n
  induction n with
  | zero =>
    intro size rest m h1 h2 h3
    have hz : rest = 0 := by
      rw [Nat.pow_zero, Nat.lt_one_iff, Nat.mul_eq_zero] at h2
      omega
    subst hz
    obtain ⟨m, rfl⟩ : ∃ k, m = k + 1 := ⟨m - 1, by omega⟩
    rw [whl_stop (gcl_c x0 x1 size 0), Nat.gcd_zero_right]; rfl
  | succ n ih =>
    intro size rest m h1 h2 h3
    obtain ⟨m, rfl⟩ : ∃ k, m = k + 1 := ⟨m - 1, by omega⟩
    by_cases hz : rest = 0
    · subst hz
      rw [whl_stop (gcl_c x0 x1 size 0), Nat.gcd_zero_right]; rfl
    · have hp : 0 < rest := by omega
      have hm : size % rest < rest := Nat.mod_lt _ hp
      have h2' : rest * (size % rest) < 2 ^ n := by
        have e := Nat.div_add_mod size rest
        have hd : 1 ≤ size / rest := Nat.div_pos h1 hp
        have h4 : rest * 1 ≤ rest * (size / rest) := Nat.mul_le_mul_left _ hd
        have h5 : 2 * (size % rest) ≤ size := by omega
        have h6 : rest * (2 * (size % rest)) ≤ rest * size := Nat.mul_le_mul_left _ h5
        have h7 : rest * size = size * rest := Nat.mul_comm _ _
        have h8 : rest * (2 * (size % rest)) = 2 * (rest * (size % rest)) := by rw [Nat.mul_left_comm]
        rw [Nat.pow_succ] at h2
        omega
      have hc := gcl_c (C := C) x0 x1 size rest
      rw [decide_eq_true (by omega : (0 : Int) < rest)] at hc
      rw [whl_step hc (gcl_b x0 x1 size rest hp), ih rest (size % rest) m (by omega) h2' (by omega)]
      rw [show Nat.gcd size rest = Nat.gcd rest (size % rest) by rw [Nat.gcd_comm size, Nat.gcd_rec rest, Nat.gcd_comm]]
theorem gcl_all {C : Cn} (x0 x1 : Option T) (a b : Nat) (ha : a < 2 ^ 9000) (hb : b < 2 ^ 9000) :
    whlLoop (ev C (.cmpL .ne 3 (.int 0))) (exs C (.cons (.par [2, 3] (.cons (.var 3) (.cons (.bin .mod (.primv .int 2) (.var 3)) .nil))) .nil)) FU [x0, x1, some (.int b), some (.int a)] =
      .ok .nx [x0, x1, some (.int (Nat.gcd b a)), some (.int 0)] := by
  by_cases h : a ≤ b
  · refine gcl_loop x0 x1 18000 b a FU h ?_ (by unfold FU; decide)
    calc b * a < 2 ^ 9000 * 2 ^ 9000 := Nat.mul_lt_mul'' hb ha
      _ = 2 ^ 18000 := by rw [← Nat.pow_add]
  · have hp : 0 < a := by omega
    have hc := gcl_c (C := C) x0 x1 b a
    rw [decide_eq_true (by omega : (0 : Int) < a)] at hc
    have hF : FU = (FU - 1) + 1 := by unfold FU; decide
    rw [hF, whl_step hc (gcl_b x0 x1 b a hp), Nat.mod_eq_of_lt (by omega), gcl_loop x0 x1 18000 a b (FU - 1) (by omega) ?_ (by unfold FU; decide), Nat.gcd_comm]
    calc a * b < 2 ^ 9000 * 2 ^ 9000 := Nat.mul_lt_mul'' ha hb
      _ = 2 ^ 18000 := by rw [← Nat.pow_add]
theorem least_is {C : Cn} (hio : C.io = false) : IsMade (run C 4 Tx.least) := by
  intro a b hb la lb
  have hg := gcl_all (C := C) (some (.int a)) (some (.int b)) a.natAbs b.natAbs la lb
  have ea : (if a < 0 then -a else a) = (a.natAbs : Int) := by split <;> omega
  have eb : (if b < 0 then -b else b) = (b.natAbs : Int) := by split <;> omega
  have hgp : 0 < Nat.gcd b.natAbs a.natAbs := Nat.gcd_pos_of_pos_left _ (by omega)
  have hg1 : Nat.gcd b.natAbs a.natAbs ≤ b.natAbs := Nat.gcd_le_left _ (by omega)
  have hlog : (Nat.gcd b.natAbs a.natAbs).log2 < 9000 := (Nat.log2_lt (by omega)).mpr (by omega)
  have hnum : (Rat.divInt a b).num = Int.fdiv (b.sign * a) (Nat.gcd b.natAbs a.natAbs : Nat) := by rw [Rat.num_divInt, fdiv_nat]; rfl
  have hden : ((Rat.divInt a b).den : Int) = Int.fdiv (b.sign * b) (Nat.gcd b.natAbs a.natAbs : Nat) := by
    rw [Rat.den_divInt, if_neg hb, fdiv_nat, Int.sign_mul_self]
    rfl
  generalize hG : Nat.gcd b.natAbs a.natAbs = g at *
  have hgn : (g : Int) ≠ 0 := by omega
  have hs : ∀ x : Int, Int.fdiv x (if b < 0 then 0 - (g : Int) else g) = Int.fdiv (b.sign * x) g := by
    intro x
    rcases Int.lt_trichotomy b 0 with h | h | h
    · rw [if_pos h, Int.sign_eq_neg_one_of_neg h, Int.zero_sub, Int.neg_one_mul]
      have := Int.neg_fdiv_neg (-x) (g : Int)
      rw [Int.neg_neg] at this
      exact this
    · omega
    · rw [if_neg (by omega), Int.sign_eq_one_of_pos h, Int.one_mul]
  unfold fr
  rw [hnum, hden, ← hs, ← hs]
  have hSn : (if b < 0 then 0 - (g : Int) else g) ≠ 0 := by split <;> omega
  have hSl : (if b < 0 then 0 - (g : Int) else g).natAbs.log2 < 9000 := by
    have : (if b < 0 then 0 - (g : Int) else g).natAbs = g := by split <;> omega
    rw [this]; exact hlog
  have s1 : ex C (.par [2, 3] (.cons (.primv .abs 1) (.cons (.primv .abs 0) .nil))) [some (.int a), some (.int b), none, none] = .ok .nx [some (.int a), some (.int b), some (.int b.natAbs), some (.int a.natAbs)] := by
    simp [ex, evs, ev, gt, Iv.prim, R.of, R.bind, parS, setNm, ea, eb]
  have s2 : ex C (.whl (.cmpL .ne 3 (.int 0)) (.cons (.par [2, 3] (.cons (.var 3) (.cons (.bin .mod (.primv .int 2) (.var 3)) .nil))) .nil)) [some (.int a), some (.int b), some (.int b.natAbs), some (.int a.natAbs)] = .ok .nx [some (.int a), some (.int b), some (.int g), some (.int 0)] := by
    rw [ex]; exact hg
  have s3 : ex C (.ife (.cmpL .lt 1 (.int 0)) (.cons (.asg (.nm 2) (.bin .sub (.int 0) (.var 2))) .nil) .nil) [some (.int a), some (.int b), some (.int g), some (.int 0)] = .ok .nx [some (.int a), some (.int b), some (.int (if b < 0 then 0 - (g : Int) else g)), some (.int 0)] := by
    by_cases h : b < 0
    · simp [has, gt, boolR, cmp, h, readV, isF, setNm, hio]
    · simp [has, gt, boolR, cmp, h]
  have s4 : ex C (.ret (.tup (.cons (.bin .fdiv (.var 0) (.var 2)) (.cons (.bin .fdiv (.var 1) (.var 2)) .nil)))) [some (.int a), some (.int b), some (.int (if b < 0 then 0 - (g : Int) else g)), some (.int 0)] =
      .ok (.rt (.tup [.int (Int.fdiv a (if b < 0 then 0 - (g : Int) else g)), .int (Int.fdiv b (if b < 0 then 0 - (g : Int) else g))])) [some (.int a), some (.int b), some (.int (if b < 0 then 0 - (g : Int) else g)), some (.int 0)] := by
    have f1 := bin_fdiv_i (a := a) hSn hSl
    have f2 := bin_fdiv_i (a := b) hSn hSl
    generalize (if b < 0 then 0 - (g : Int) else g) = S at *
    simp [gt, readV, isF, f1, f2]
  refine run_rt hio (e := [some (.int a), some (.int b), some (.int (if b < 0 then 0 - (g : Int) else g)), some (.int 0)]) ?_
  unfold Tx.least startE
  show exs C _ [some (.int a), some (.int b), none, none] = _
  rw [exs_nx s1, exs_nx s2, exs_nx s3]
  exact exs_rt s4
def IsLess (f : List T → Cr) : Prop := ∀ p q : Rat, Sm p → Sm q → f [fr p, fr q] = ok0 (.bl (decide (p < q)))
theorem less_is {C : Cn} (hio : C.io = false) : IsLess (run C 2 Tx.less) := by
  intro p q hp hq
  have e : decide (p < q) = decide (p.num * q.den < q.num * p.den) := by rw [decide_eq_decide]; exact Rat.lt_iff p q
  have m1 := bin_mul_i (mul_nd hp hq)
  have m2 := bin_mul_i (mul_nd hq hp)
  rw [e]
  refine run_rt hio (e := [some (fr p), some (fr q)]) ?_
  unfold Tx.less startE
  refine exs_rt ?_
  show ex C _ [some (fr p), some (fr q)] = _
  simp [has, gt, fz, isF, m1, m2, cmp, boolR]
/-! ### the tape -/
def tpe (ns : List Int) (p r s : Int) : T := .lst true [.lst false (ns.map .int), .int p, .int r, .int s]
def Tape (tp : T) : Prop := ∃ (ns : List Int) (p r s : Int), tp = tpe ns p r s ∧ 0 ≤ p ∧ 0 ≤ r
def IsNext (f : List T → Cr) : Prop := ∀ tp, Tape tp → ∀ n : Nat, 0 < n → n ≤ 1000 → ∃ (k : Nat) (tp' : T), k < n ∧ Tape tp' ∧ f [tp, .int n] = .ok (.int k) tp'
theorem run_io {C : Cn} {n : Nat} {b : Ss} {ts : List T} {t i : T} {e : Env} (hio : C.io = true) (h : exs C b (startE n ts) = .ok (.rt t) e) (hg : gt e 0 = some i) : run C n b ts = .ok t i := by
  unfold run; rw [h]; simp only [hio, hg]; rfl
theorem mulOk_r {a b : Int} (h : b.natAbs < 2 ^ 64) : mulOk a b = true := by
  unfold mulOk
  rw [Bool.or_eq_true, Bool.or_eq_true]
  exact .inl (.inr (decide_eq_true h))
theorem at_tpe0 {ns : List Int} {p r s : Int} : at_ (tpe ns p r s) (.int 0) = some (.lst false (ns.map .int)) := rfl
theorem at_tpe1 {ns : List Int} {p r s : Int} : at_ (tpe ns p r s) (.int 1) = some (.int p) := rfl
theorem at_tpe2 {ns : List Int} {p r s : Int} : at_ (tpe ns p r s) (.int 2) = some (.int r) := rfl
theorem at_tpe3 {ns : List Int} {p r s : Int} : at_ (tpe ns p r s) (.int 3) = some (.int s) := rfl
theorem isF_ints (ns : List Int) : isF (.lst false (ns.map .int)) = true := by
  show (!false && isFs (ns.map .int)) = true
  rw [isFs_map fun _ _ => rfl]; rfl
theorem isFs_nsI (ns : List Int) : isFs (ns.map T.int) = true := isFs_map fun _ _ => rfl
theorem set_tpe1 {ns : List Int} {p r s q : Int} {e : Env} : setIx 0 (.int 1) (.int q) (some (tpe ns p r s) :: e) = .ok () (some (tpe ns q r s) :: e) := rfl
theorem set_tpe2 {ns : List Int} {p r s q : Int} {e : Env} : setIx 0 (.int 2) (.int q) (some (tpe ns p r s) :: e) = .ok () (some (tpe ns p q s) :: e) := rfl
theorem set_tpe3 {ns : List Int} {p r s q : Int} {e : Env} : setIx 0 (.int 3) (.int q) (some (tpe ns p r s) :: e) = .ok () (some (tpe ns p r q) :: e) := rfl
theorem next_end {C : Cn} {ns : List Int} {p r s x : Int} {y : Option T} {n : Nat} (hn : 0 < n) (hn2 : n ≤ 1000) : exs C (.cons (.asg (.ix 0 (.int 2)) (.bin .fdiv (.var 2) (.var 1)))
    (.cons (.ret (.bin .mod (.primv .int 2) (.var 1)))
    .nil)) [some (tpe ns p r s), some (.int n), some (.int x), y] = .ok (.rt (.int (x.fmod n))) [some (tpe ns p (x.fdiv n) s), some (.int n), some (.int x), y] := by
  have h0 : (n : Int) ≠ 0 := by omega
  have f1 := bin_fdiv_i (a := x) h0 (by
    rw [Int.natAbs_natCast]
    exact (Nat.log2_lt (by omega)).mpr (lt_pow _ hn2 (by decide)))
  have f2 := bin_mod_i (a := x) h0
  have p1 : Iv.prim .int (.int x) = some (.int x) := rfl
  generalize (n : Int) = N at *
  rw [exs_nx (e1 := [some (tpe ns p (x.fdiv N) s), some (.int N), some (.int x), y])]
  · refine exs_rt ?_
    simp [gt, p1, rv_int, f2]
  · simp [gt, rv_int, f1, has, set_tpe2]
theorem next_is {C : Cn} (hio : C.io = true) : IsNext (run C 4 Tx.next) := by
  rintro tp ⟨ns, p, r, s, rfl, hp, hr⟩ n hn hn2
  have h0 : (n : Int) ≠ 0 := by omega
  have hpos : (0 : Int) < n := by omega
  have fin : ∀ (x : Int) (t' : T) (e : Env), Tape t' → exs C Tx.next (startE 4 [tpe ns p r s, .int n]) = .ok (.rt (.int (x.fmod n))) e → gt e 0 = some t' → ∃ (k : Nat) (tp' : T), k < n ∧ Tape tp' ∧ run C 4 Tx.next [tpe ns p r s, .int n] = .ok (.int k) tp' := by
    intro x t' e ht he hg
    have g1 := Int.fmod_nonneg_of_pos x hpos
    have g2 := Int.fmod_lt_of_pos x hpos
    refine ⟨(x.fmod n).toNat, t', by omega, ht, ?_⟩
    rw [Int.toNat_of_nonneg g1]
    exact run_io hio he hg
  have hst : startE 4 [tpe ns p r s, .int n] = [some (tpe ns p r s), some (.int n), none, none] := rfl
  rw [hst] at fin
  have s1 : ex C (.asg (.nm 2) (.ix 0 (.int 2))) [some (tpe ns p r s), some (.int n), none, none] = .ok .nx [some (tpe ns p r s), some (.int n), some (.int r), none] := by
    simp [has, gt, at_tpe2, fz, isF, setNm, hio]
  by_cases hz : r = 0
  · subst hz
    obtain ⟨c, p', hc, hp', hcell⟩ : ∃ c p' : Int, 0 ≤ c ∧ 0 ≤ p' ∧ exs C (.cons (.asg (.nm 3) (.int 0))
    (.cons (.ife (.cmp .lt (.ix 0 (.int 1)) (.prim .len (.ix 0 (.int 0)))) (.cons (.asg (.nm 3) (.prim .abs (.prim .int (.idx (.ix 0 (.int 0)) (.ix 0 (.int 1))))))
    (.cons (.asg (.ix 0 (.int 1)) (.bin .add (.ix 0 (.int 1)) (.int 1)))
    .nil)) .nil) .nil)) [some (tpe ns p 0 s), some (.int n), some (.int 0), none] = .ok .nx [some (tpe ns p' 0 s), some (.int n), some (.int 0), some (.int c)] := by
      have a1 : ex C (.asg (.nm 3) (.int 0)) [some (tpe ns p 0 s), some (.int n), some (.int 0), none] = .ok .nx [some (tpe ns p 0 s), some (.int n), some (.int 0), some (.int 0)] := by
        simp [setNm, hio]
      have pl : Iv.prim .len (.lst false (ns.map .int)) = some (.int ns.length) := by simp [Iv.prim]
      have c1 : ev C (.cmp .lt (.ix 0 (.int 1)) (.prim .len (.ix 0 (.int 0)))) [some (tpe ns p 0 s), some (.int n), some (.int 0), some (.int 0)] = .ok (.bl (decide (p < ns.length))) [some (tpe ns p 0 s), some (.int n), some (.int 0), some (.int 0)] := by
        simp [has, gt, at_tpe0, at_tpe1, fz, isFs_nsI, isF, pl, cmp, boolR]
      by_cases hlt : p < ns.length
      · obtain ⟨k, rfl⟩ : ∃ k : Nat, p = k := ⟨p.toNat, by omega⟩
        have hk : k < ns.length := by omega
        have ha : at_ (.lst false (ns.map .int)) (.int (k : Int)) = some (.int (ns[k])) := by
          show L2.atI (ns.map T.int) (k : Int) = _
          refine L2.atI_nat ?_
          rw [List.getElem?_map, List.getElem?_eq_getElem hk]; rfl
        have pi : ∀ x, Iv.prim .int (.int x) = some (.int x) := fun _ => rfl
        have pa : ∀ x : Int, Iv.prim .abs (.int x) = some (.int x.natAbs) := fun x => by
          show some (T.int (if x < 0 then -x else x)) = _
          congr 2
          split <;> omega
        refine ⟨(ns[k]).natAbs, k + 1, by omega, by omega, ?_⟩
        rw [decide_eq_true hlt] at c1
        rw [exs_nx a1]
        generalize hK : (k : Int) = K at *
        generalize hX : ns[k] = X at *
        rw [exs_nx (e1 := [some (tpe ns (K + 1) 0 s), some (.int n), some (.int 0), some (.int X.natAbs)])]
        · simp
        · rw [x_ex_ife, c1, R.bind_ok]
          show exs C _ _ = _
          rw [exs_nx (e1 := [some (tpe ns K 0 s), some (.int n), some (.int 0), some (.int X.natAbs)])]
          · rw [exs_nx (e1 := [some (tpe ns (K + 1) 0 s), some (.int n), some (.int 0), some (.int X.natAbs)])]
            · simp
            · simp [has, gt, at_tpe1, fz, isF, set_tpe1]
          · simp [has, gt, at_tpe0, at_tpe1, fz, isFs_nsI, isF, ha, pi, pa, setNm, hio]
      · refine ⟨0, p, by omega, hp, ?_⟩
        rw [decide_eq_false hlt] at c1
        rw [exs_nx a1, exs_nx (e1 := [some (tpe ns p 0 s), some (.int n), some (.int 0), some (.int 0)])]
        · simp
        · rw [x_ex_ife, c1, R.bind_ok]
          simp
    have hcell2 : ∀ rest, exs C (.cons (.asg (.nm 3) (.int 0))
    (.cons (.ife (.cmp .lt (.ix 0 (.int 1)) (.prim .len (.ix 0 (.int 0)))) (.cons (.asg (.nm 3) (.prim .abs (.prim .int (.idx (.ix 0 (.int 0)) (.ix 0 (.int 1))))))
    (.cons (.asg (.ix 0 (.int 1)) (.bin .add (.ix 0 (.int 1)) (.int 1)))
    .nil)) .nil) rest)) [some (tpe ns p 0 s), some (.int n), some (.int 0), none] = exs C rest [some (tpe ns p' 0 s), some (.int n), some (.int 0), some (.int c)] := by
      intro rest
      rw [x_exs_cons] at hcell
      cases q1 : ex C (.asg (.nm 3) (.int 0)) [some (tpe ns p 0 s), some (.int n), some (.int 0), none] with
      | bad => rw [q1] at hcell; cases hcell
      | exc _ _ _ => rw [q1] at hcell; cases hcell
      | ok f1 e1 =>
        rw [q1, R.bind_ok] at hcell
        cases f1 <;> first | (cases hcell; done) | skip
        rw [exs_nx q1]
        simp only at hcell
        rw [x_exs_cons] at hcell
        generalize hS : ex C (.ife (.cmp .lt (.ix 0 (.int 1)) (.prim .len (.ix 0 (.int 0)))) _ _) e1 = rr at hcell
        cases rr with
        | bad => cases hcell
        | exc _ _ _ => cases hcell
        | ok f2 e2 =>
          rw [R.bind_ok] at hcell
          cases f2 <;> first | (cases hcell; done) | skip
          rw [exs_nx hS]
          simp only [x_exs_nil] at hcell
          cases hcell
          rfl
    have a3 : ex C (.asg (.nm 2) (.var 3)) [some (tpe ns p' 0 s), some (.int n), some (.int 0), some (.int c)] = .ok .nx [some (tpe ns p' 0 s), some (.int n), some (.int c), some (.int c)] := by
      simp [gt, rv_int, setNm, hio]
    have hpow : bin .pow (.int 10) (.int 18) = some (.int 1000000000000000000) := by simp [bin]
    have c2 : ev C (.cmpL .lt 3 (.bin .pow (.int 10) (.int 18))) [some (tpe ns p' 0 s), some (.int n), some (.int c), some (.int c)] = .ok (.bl (decide (c < 1000000000000000000))) [some (tpe ns p' 0 s), some (.int n), some (.int c), some (.int c)] := by
      simp [has, gt, hpow, cmp, boolR]
    have q0 : ev C (.cmpL .eq 2 (.int 0)) [some (tpe ns p 0 s), some (.int n), some (.int 0), none] = .ok (.bl true) [some (tpe ns p 0 s), some (.int n), some (.int 0), none] := by
      simp [has, gt, cmpInt, boolR]
    by_cases hlt : c < 1000000000000000000
    · rw [decide_eq_true hlt] at c2
      have m1 := bin_mul_i (mulOk_r (a := s) (b := 69621) (by decide))
      have m2 := bin_mul_i (mulOk_r (a := c) (b := 40692) (by decide))
      have pi : ∀ x, Iv.prim .int (.int x) = some (.int x) := fun _ => rfl
      have m3 := bin_mod_i (a := s * 69621 + c * 40692 + 17) (b := 2147483647) (by decide)
      generalize hs' : (s * 69621 + c * 40692 + 17).fmod 2147483647 = s' at *
      have m4 := bin_fdiv_i (a := s') (b := 5) (by decide) (by decide)
      have m5 := bin_mul_i (mulOk_r (a := s'.fdiv 5) (b := 48271) (by decide))
      have m6 := bin_mod_i (a := s'.fdiv 5 * 48271) (b := 2147483647) (by decide)
      generalize hx : (s'.fdiv 5 * 48271).fmod 2147483647 = x at *
      have m7 := bin_mod_i (a := x) h0
      refine fin x (tpe ns p' 0 s') [some (tpe ns p' 0 s'), some (.int n), some (.int c), some (.int c)] ⟨ns, p', 0, s', rfl, hp', by omega⟩ ?_ rfl
      unfold Tx.next
      rw [exs_nx s1]
      refine exs_rt ?_
      rw [x_ex_ife, q0, R.bind_ok]
      show exs C _ _ = _
      rw [hcell2, exs_nx a3]
      refine exs_rt ?_
      rw [x_ex_ife, c2, R.bind_ok]
      show exs C _ _ = _
      generalize (n : Int) = N at *
      rw [exs_nx (e1 := [some (tpe ns p' 0 s'), some (.int N), some (.int c), some (.int c)])]
      · refine exs_rt ?_
        simp [has, gt, at_tpe3, fz, isF, m4, pi, m5, m6, rv_int, m7]
      · simp [has, gt, at_tpe3, fz, isF, m1, m2, pi, rv_int, m3, set_tpe3]
    · rw [decide_eq_false hlt] at c2
      refine fin c (tpe ns p' (c.fdiv n) s) [some (tpe ns p' (c.fdiv n) s), some (.int n), some (.int c), some (.int c)] ⟨ns, p', c.fdiv n, s, rfl, hp', Int.fdiv_nonneg hc (by omega)⟩ ?_ rfl
      unfold Tx.next
      rw [exs_nx s1, exs_nx (e1 := [some (tpe ns p' 0 s), some (.int n), some (.int c), some (.int c)])]
      · exact next_end hn hn2
      · rw [x_ex_ife, q0, R.bind_ok]
        show exs C _ _ = _
        rw [hcell2, exs_nx a3, exs_nx (e1 := [some (tpe ns p' 0 s), some (.int n), some (.int c), some (.int c)])]
        · simp
        · rw [x_ex_ife, c2, R.bind_ok]
          simp
  · have q0 : ev C (.cmpL .eq 2 (.int 0)) [some (tpe ns p r s), some (.int n), some (.int r), none] = .ok (.bl false) [some (tpe ns p r s), some (.int n), some (.int r), none] := by
      simp [has, gt, cmpInt, boolR, hz]
    refine fin r (tpe ns p (r.fdiv n) s) [some (tpe ns p (r.fdiv n) s), some (.int n), some (.int r), none] ⟨ns, p, r.fdiv n, s, rfl, hp, Int.fdiv_nonneg hr (by omega)⟩ ?_ rfl
    unfold Tx.next
    rw [exs_nx s1, exs_nx (e1 := [some (tpe ns p r s), some (.int n), some (.int r), none])]
    · exact next_end hn hn2
    · rw [x_ex_ife, q0, R.bind_ok]
      simp
end Iv
set_option Elab.async false
set_option linter.all false
set_option maxRecDepth 100000
set_option exponentiation.threshold 20000
namespace Tx
open Iv
def same (m : Nat) : Ss :=
    (.cons (.ife (.isnv false 1) (.cons (.ret (.isnv false 0))
    .nil) .nil)
    (.cons (.ife (.isiv 1 .bool) (.cons (.ret (.and (.isiv 0 .bool) (.cmpL .eq 0 (.var 1))))
    .nil) .nil)
    (.cons (.ife (.isiv 1 .int) (.cons (.ret (.and (.isiv 0 .int) (.and (.not (.isiv 0 .bool)) (.cmpL .eq 0 (.var 1)))))
    .nil) .nil)
    (.cons (.ife (.isiv 1 .str) (.cons (.ret (.and (.isiv 0 .str) (.cmpL .eq 0 (.var 1))))
    .nil) .nil)
    (.cons (.ife (.or (.and (.isiv 1 .list) (.not (.isiv 0 .list))) (.and (.isiv 1 .tuple) (.not (.isiv 0 .tuple)))) (.cons (.ret (.bl false))
    .nil) .nil)
    (.cons (.ret (.and (.cmp .eq (.primv .len 0) (.primv .len 1)) (.cmp .eq (.lc [2] (.nm 2) (.rg1 (.primv .len 1)) (.som (.not (.call m (.cons (.ix 0 (.var 2)) (.cons (.ix 1 (.var 2)) .nil))))) (.int 1)) (.lst .nil))))
    .nil))))))
def lrow (n l : Nat) : Ss :=
    (.cons (.asg (.nm 2) (.lc [3] (.nm 3) (.rg1 (.var 1)) .non (.cio n 0 (.cons (.int 4) .nil))))
    (.cons (.augi 2 (.cio n 0 (.cons (.var 1) .nil)) .add (.int 1))
    (.cons (.ret (.prim .tuple (.lc [4] (.nm 4) (.seq (.var 2)) .non (.call l (.cons (.var 4) (.cons (.primv .sum 2) .nil))))))
    .nil)))
def ltable (n l : Nat) : Ss :=
    (.cons (.ret (.prim .tuple (.lc [3] (.nm 3) (.rg1 (.var 1)) .non (.prim .tuple (.lc [4] (.nm 4) (.rg1 (.var 2)) .non (.call l (.cons (.bin .sub (.cio n 0 (.cons (.int 9) .nil)) (.int 3)) (.cons (.bin .add (.int 1) (.cio n 0 (.cons (.int 3) .nil))) .nil))))))))
    .nil)
end Tx
namespace Iv
open PySem
/-! ### the same value -/
def SameTo (k : Nat) (f : List T → Cr) : Prop := ∀ t, Vl k t → f [t, t] = ok0 (.bl true)
theorem srs_rg {C : Cn} {a : E} {n : Nat} {e e0 : Env} (ha : ev C a e = .ok (.int n) e0) (hl : n ≤ SZ) : srs C (.rg1 a) e = .ok ((List.range n).map fun k : Nat => T.int k) e0 := by
  have hr : rangeT 0 (n : Int) = some ((List.range n).map fun k : Nat => T.int k) := by
    unfold rangeT
    have hb : -RGB ≤ 0 ∧ (0 : Int) < RGB ∧ -RGB ≤ (n : Int) ∧ (n : Int) < RGB := by unfold RGB; have : SZ = 16777216 := rfl; omega
    rw [if_pos hb]
    simp
  rw [srs, ha, R.bind_ok]
  show R.of (rangeT 0 (n : Int)) e0 = _
  rw [hr]; rfl
theorem Vl.F {k : Nat} {t : T} (h : Vl k t) : isF t = true := h.1.1
theorem Vl.lst {k : Nat} {o : Bool} {ts : List T} (h : Vl (k + 1) (.lst o ts)) : o = false ∧ (∀ t ∈ ts, Vl k t) ∧ ts.length ≤ SZ ∧ isFs ts = true := by
  have h2 := h.2
  unfold szs at h2
  have h2' := Bool.and_eq_true_iff.mp h2
  have hl := of_decide_eq_true h2'.2
  refine ⟨h.1.lst.1, fun t ht => ⟨h.1.lst.2.mem t ht, szss_mem h2'.1 t ht⟩, ?_, h.1.lst.2.1⟩
  exact Nat.le_trans hl (by decide)
theorem frzs2 {a b : T} (ha : isF a = true) (hb : isF b = true) : frzs [a, b] = [a, b] := by simp [frzs, frz_of _ ha, frz_of _ hb]
theorem same_last {C : Cn} {m k : Nat} {t : T} {ts : List T} (hio : C.io = false) (hm : SameTo k (C.call m)) (hlen : Iv.prim .len t = some (.int ts.length)) (hat : ∀ i, (h : i < ts.length) → at_ t (.int i) = some ts[i]) (hts : ∀ u ∈ ts, Vl k u) (hl : ts.length ≤ SZ) :
    ev C (.and (.cmp .eq (.primv .len 0) (.primv .len 1)) (.cmp .eq (.lc [2] (.nm 2) (.rg1 (.primv .len 1)) (.som (.not (.call m (.cons (.ix 0 (.var 2)) (.cons (.ix 1 (.var 2)) .nil))))) (.int 1)) (.lst .nil))) [some t, some t, none] = .ok (.bl true) [some t, some t, none] := by
  have h := lcAc (fun i : Nat => T.int i) (C := C) (s := .rg1 (.primv .len 1)) (c := .not (.call m (.cons (.ix 0 (.var 2)) (.cons (.ix 1 (.var 2)) .nil)))) (x := .int 1) (i := 2) (l := List.range ts.length) (e := [some t, some t, none]) (e0 := [some t, some t, none]) (fun _ => false) (fun _ => .int 1) (srs_rg (by simp [gt, hlen]) hl) (by simp) hio rfl (by simpa using hl) (fun i hi => by
      have hi := List.mem_range.mp hi
      have hv := hts _ (List.getElem_mem hi)
      have ha := hat i hi
      have hc := hm _ hv
      have hF := hv.F
      generalize ts[i] = u at *
      have hz := frzs2 hF hF
      simp [has, gt, rv_int, ha, fz, hF, hz, hc]) (fun i _ h => by cases h)
  have hf : (List.range ts.length).filter (fun _ => false) = [] := by simp
  rw [hf, List.map_nil] at h
  have c1 : cmp .eq (.int (ts.length : Int)) (.int (ts.length : Int)) = some true := by rw [cmpInt]; simp
  have c2 : cmp .eq (.lst true []) (.lst true (frzs [])) = some true := rfl
  rw [x_ev_and, x_ev_cmp, x_ev_primv]
  simp only [gt, List.getElem?_cons_zero, Option.join_some, hlen, R.of_some, R.bind_ok, x_ev_primv, List.getElem?_cons_succ, c1, boolR]
  rw [x_ev_cmp, h, R.bind_ok, x_ev_lst, x_evs_nil, R.bind_ok, R.bind_ok, c2]; rfl
theorem same_atom {C : Cn} {m k : Nat} {t : T} (hio : C.io = false) (ht : Vl k t) (hk : k ≤ 60) (hn : items t = none) : run C 3 (Tx.same m) [t, t] = ok0 (.bl true) := by
  have hF := ht.F
  have hs := ht.1.shp hk
  have hok := ht.1.2.1
  have hc : cmp .eq t t = some (eqT t t) := cmpEq hs hs
  refine run_rt hio (e := [some t, some t, none]) ?_
  unfold Tx.same startE
  show exs C _ [some t, some t, none] = _
  cases t <;> first | (cases hn; done) | (unfold sok at hok; cases hok; done) | skip
  · simp [gt, isNon]
  · rename_i b
    have e : eqT (.bl b) (.bl b) = true := by simp [eqT]
    rw [e] at hc
    simp [gt, isNon, isKd, boolR, has, readV, isF, hc]
  · rename_i i
    have e : eqT (.int i) (.int i) = true := by simp [eqT]
    rw [e] at hc
    simp [gt, isNon, isKd, boolR, has, readV, isF, hc]
  · rename_i s
    have e : eqT (.str s) (.str s) = true := by simp [eqT]
    rw [e] at hc
    simp [gt, isNon, isKd, boolR, has, readV, isF, hc]
theorem same_0 {C : Cn} {m : Nat} (hio : C.io = false) : SameTo 0 (run C 3 (Tx.same m)) := by
  intro t ht
  have hd := ht.1.2.2.1
  refine same_atom hio ht (by decide) ?_
  cases t <;> first | rfl | (unfold dep at hd; omega)
theorem same_s {C : Cn} {m k : Nat} (hio : C.io = false) (hk : k < 60) (hm : SameTo k (C.call m)) : SameTo (k + 1) (run C 3 (Tx.same m)) := by
  intro t ht
  cases q : items t with
  | none => exact same_atom hio ht hk q
  | some us =>
    cases t <;> first | (cases q; done) | skip
    · rename_i ts
      obtain ⟨h1, h2, h3⟩ := Vl.tup ht
      have hl := same_last (t := .tup ts) (ts := ts) hio hm rfl (fun i hi => by
        show L2.atI ts (i : Int) = _
        exact L2.atI_nat (by rw [List.getElem?_eq_getElem hi])) h1 h2
      refine run_rt hio (e := [some (.tup ts), some (.tup ts), none]) ?_
      unfold Tx.same startE
      show exs C _ [some (.tup ts), some (.tup ts), none] = _
      rw [exs_nx (e1 := [some (.tup ts), some (.tup ts), none]) (by simp [gt, isNon]), exs_nx (e1 := [some (.tup ts), some (.tup ts), none]) (by simp [gt, isKd, boolR]), exs_nx (e1 := [some (.tup ts), some (.tup ts), none]) (by simp [gt, isKd, boolR]), exs_nx (e1 := [some (.tup ts), some (.tup ts), none]) (by simp [gt, isKd, boolR]), exs_nx (e1 := [some (.tup ts), some (.tup ts), none]) (by simp [gt, isKd, boolR])]
      refine exs_rt ?_
      rw [x_ex_ret, hl]; rfl
    · rename_i o ts
      obtain ⟨h0, h1, h2, h3⟩ := Vl.lst ht
      have hl := same_last (t := .lst o ts) (ts := ts) hio hm rfl (fun i hi => by
        show L2.atI ts (i : Int) = _
        exact L2.atI_nat (by rw [List.getElem?_eq_getElem hi])) h1 h2
      refine run_rt hio (e := [some (.lst o ts), some (.lst o ts), none]) ?_
      unfold Tx.same startE
      show exs C _ [some (.lst o ts), some (.lst o ts), none] = _
      rw [exs_nx (e1 := [some (.lst o ts), some (.lst o ts), none]) (by simp [gt, isNon]), exs_nx (e1 := [some (.lst o ts), some (.lst o ts), none]) (by simp [gt, isKd, boolR]), exs_nx (e1 := [some (.lst o ts), some (.lst o ts), none]) (by simp [gt, isKd, boolR]), exs_nx (e1 := [some (.lst o ts), some (.lst o ts), none]) (by simp [gt, isKd, boolR]), exs_nx (e1 := [some (.lst o ts), some (.lst o ts), none]) (by simp [gt, isKd, boolR])]
      refine exs_rt ?_
      rw [x_ex_ret, hl]; rfl
/-! ### sums -/
theorem foldl_tot : ∀ (l : List Rat) (p : Rat), l.foldl (· + ·) p = p + l.foldl (· + ·) 0
  | [], p => by simp [Rat.add_zero]
  | q :: l, p => by
    rw [List.foldl_cons, List.foldl_cons, foldl_tot l (p + q), foldl_tot l (0 + q), Rat.zero_add, Rat.add_assoc]
theorem tot_cons (q : Rat) (l : List Rat) : tot (q :: l) = q + tot l := by
  unfold tot
  rw [List.foldl_cons, foldl_tot, Rat.zero_add]
theorem tot_nil : tot [] = 0 := rfl
theorem tot_append (l m : List Rat) : tot (l ++ m) = tot l + tot m := by
  induction l with
  | nil => rw [List.nil_append, tot_nil, Rat.zero_add]
  | cons q l ih => rw [List.cons_append, tot_cons, tot_cons, ih, Rat.add_assoc]
theorem tot_parts {s : Int} (hs : s ≠ 0) : ∀ l : List Nat, tot (l.map fun k : Nat => Rat.divInt k s) = Rat.divInt (l.sum : Nat) s
  | [] => by rw [List.map_nil, tot_nil]; simp
  | k :: l => by
    rw [List.map_cons, tot_cons, tot_parts hs l, List.sum_cons, Rat.divInt_add_divInt _ _ hs hs]
    rw [Rat.divInt_eq_divInt_iff (Int.mul_ne_zero hs hs) hs, Int.natCast_add]
    grind
theorem intsT_map : ∀ l : List Nat, intsT (l.map fun k : Nat => T.int k) = some (l.map fun k : Nat => (k : Int))
  | [] => rfl
  | k :: l => by rw [List.map_cons, intsT, intsT_map l]; rfl
theorem sum_cast : ∀ l : List Nat, (l.map fun k : Nat => (k : Int)).sum = ((l.sum : Nat) : Int)
  | [] => rfl
  | k :: l => by rw [List.map_cons, List.sum_cons, List.sum_cons, sum_cast l, Int.natCast_add]
theorem divInt_self {s : Int} (h : s ≠ 0) : Rat.divInt s s = 1 := by
  have : (1 : Rat) = Rat.divInt 1 1 := rfl
  rw [this, Rat.divInt_eq_divInt_iff h (by decide)]; omega
theorem divInt_nn {k s : Nat} (h : 0 < s) : 0 ≤ Rat.divInt k s := by
  rw [← Rat.num_nonneg, Rat.num_divInt]
  refine Int.ediv_nonneg ?_ (by omega)
  rw [Int.sign_eq_one_of_pos (by omega)]; omega
theorem ev_next {C : Cn} {n : Nat} (hn : IsNext (C.call n)) {e : Env} {tp : T} {a : E} {k : Nat} (h : gt e 0 = some tp) (ht : Tape tp) (h0 : 0 < k) (h1 : k ≤ 1000) (ha : ev C a e = .ok (.int k) e) : ∃ (r : Nat) (tp' : T), r < k ∧ Tape tp' ∧ ev C (.cio n 0 (.cons a .nil)) e = .ok (.int r) (e.set 0 (some tp')) := by
  obtain ⟨r, tp', q1, q2, q3⟩ := hn tp ht k h0 h1
  refine ⟨r, tp', q1, q2, ?_⟩
  rw [x_ev_cio, x_evs_cons, ha, R.bind_ok, x_evs_nil, R.bind_ok, R.bind_ok, has, h]
  show crIo (C.call n [tp, .int k]) 0 e = _
  rw [q3]; rfl
def IsLRow (f : List T → Cr) : Prop := ∀ tp, Tape tp → ∀ n : Nat, 0 < n → n ≤ 100 → ∃ (l : List Rat) (tp' : T), Tape tp' ∧ l.length = n ∧ tot l = 1 ∧ (∀ q ∈ l, 0 ≤ q ∧ Wt 10 q ∧ (n ≤ 4 → Wt 5 q)) ∧ f [tp, .int n] = .ok (frs l) tp'
theorem le_sum {k : Nat} : ∀ {l : List Nat}, k ∈ l → k ≤ l.sum
  | [], h => by cases h
  | j :: l, h => by
    rw [List.sum_cons]
    rcases List.mem_cons.mp h with rfl | h
    · omega
    · have := le_sum h; omega
theorem sum_le {b : Nat} : ∀ {l : List Nat}, (∀ k ∈ l, k ≤ b) → l.sum ≤ l.length * b
  | [], _ => Nat.zero_le _
  | k :: l, h => by
    have h1 := h k List.mem_cons_self
    have h2 := sum_le fun j hj => h j (List.mem_cons_of_mem _ hj)
    rw [List.sum_cons, List.length_cons, Nat.succ_mul]; omega
theorem lrow_is {C : Cn} {n l : Nat} (hio : C.io = true) (hn : IsNext (C.call n)) (hl : IsMade (C.call l)) : IsLRow (run C 5 (Tx.lrow n l)) := by
  intro tp ht k h0 h1
  have hsz : SZ = 16777216 := rfl
  obtain ⟨ps, tp1, t1, l1, w1, e1⟩ := lcS (C := C) (s := .rg1 (.var 1)) (x := .cio n 0 (.cons (.int 4) .nil)) (i := 3) (j := 0) (e := [some tp, some (.int k), none, none, none]) (its := (List.range k).map fun k : Nat => T.int k) (P := Tape) (W := fun r : Nat => r < 4) (fun r : Nat => T.int r) (by decide) (by simp) rfl (by simp) (by simp; omega) ht
    (srs_rg (by simp [gt, rv_int]) (by omega)) fun t _ tp ht => by
      obtain ⟨r, tp', q1, q2, q3⟩ := ev_next hn (e := ([some tp, some (.int k), none, none, none].set 3 (some t))) (a := .int 4) (k := 4) rfl ht (by decide) (by decide) rfl
      exact ⟨r, tp', q2, q1, q3⟩
  rw [List.length_map, List.length_range] at l1
  have e1 : ev C (.lc [3] (.nm 3) (.rg1 (.var 1)) .non (.cio n 0 (.cons (.int 4) .nil))) [some tp, some (.int k), none, none, none] = .ok (.lst true (ps.map fun r : Nat => T.int r)) [some tp1, some (.int k), none, none, none] := e1
  obtain ⟨r, tp2, hr, t2, e2⟩ := ev_next hn (e := [some tp1, some (.int k), some (.lst true (ps.map fun r : Nat => T.int r)), none, none]) (a := .var 1) (k := k) rfl t1 h0 (by omega) (by simp [gt, rv_int])
  have hrl : r < ps.length := by omega
  have hat : at_ (.lst true (ps.map fun r : Nat => T.int r)) (.int r) = some (.int ps[r]) := by
    show L2.atI _ (r : Int) = _
    exact L2.atI_nat (by rw [List.getElem?_map, List.getElem?_eq_getElem hrl]; rfl)
  have hset : setIx 2 (.int r) (.int (ps[r] + 1 : Nat)) [some tp2, some (.int k), some (.lst true (ps.map fun r : Nat => T.int r)), none, none] = .ok () [some tp2, some (.int k), some (.lst true ((ps.set r (ps[r] + 1)).map fun r : Nat => T.int r)), none, none] := by
    have hix : L2.ixN (ps.map fun r : Nat => T.int r).length (r : Int) = some r := ixN_nat (by rw [List.length_map]; exact hrl)
    show (match L2.ixN (ps.map fun r : Nat => T.int r).length (r : Int) with
      | some j => R.ok () ([some tp2, some (.int k), some (.lst true (ps.map fun r : Nat => T.int r)), none, none].set 2 (some (.lst true ((ps.map fun r : Nat => T.int r).set j (.int (ps[r] + 1 : Nat))))))
      | none => .bad) = _
    rw [hix, List.map_set]; rfl
  have s1 : ex C (.asg (.nm 2) (.lc [3] (.nm 3) (.rg1 (.var 1)) .non (.cio n 0 (.cons (.int 4) .nil)))) [some tp, some (.int k), none, none, none] = .ok .nx [some tp1, some (.int k), some (.lst true (ps.map fun r : Nat => T.int r)), none, none] := by
    rw [x_ex_asg, e1, R.bind_ok]
    simp [setNm, hio]
  have s2 : ex C (.augi 2 (.cio n 0 (.cons (.var 1) .nil)) .add (.int 1)) [some tp1, some (.int k), some (.lst true (ps.map fun r : Nat => T.int r)), none, none] = .ok .nx [some tp2, some (.int k), some (.lst true ((ps.set r (ps[r] + 1)).map fun r : Nat => T.int r)), none, none] := by
    rw [x_ex_augi, e2]
    generalize ps[r] = p at *
    generalize (ps.map fun r : Nat => T.int r) = pl at *
    have hset' : setIx 2 (.int r) (.int ((p : Int) + 1)) [some tp2, some (.int k), some (.lst true pl), none, none] = _ := hset
    simp [has, gt, hat, iop, hset']
  have w2 : ∀ j ∈ ps.set r (ps[r] + 1), j ≤ 4 := by
    intro j hj
    rcases List.mem_or_eq_of_mem_set hj with g | g
    · have := w1 j g; omega
    · have := w1 _ (List.getElem_mem hrl); omega
  have l2 : (ps.set r (ps[r] + 1)).length = k := by rw [List.length_set, l1]
  have hpos : 0 < (ps.set r (ps[r] + 1)).sum := by
    have hm : ps[r] + 1 ∈ ps.set r (ps[r] + 1) := List.mem_set hrl _
    have := le_sum hm
    omega
  generalize ps.set r (ps[r] + 1) = qs at *
  have hle := sum_le w2
  have hS : qs.sum ≤ 400 := by rw [l2] at hle; omega
  have hFq : isFs (qs.map fun r : Nat => T.int r) = true := isFs_map fun _ _ => rfl
  have hrd : readV [some tp2, some (.int k), some (.lst true (qs.map fun r : Nat => T.int r)), none, none] 2 = .ok (.lst false (qs.map fun r : Nat => T.int r)) [some tp2, some (.int k), some (.lst false (qs.map fun r : Nat => T.int r)), none, none] := by
    have h3 : frz (.lst true (qs.map fun r : Nat => T.int r)) = .lst false (qs.map fun r : Nat => T.int r) := by
      show T.lst false (frzs _) = _
      rw [frzs_of _ hFq]
    show (if isF (.lst true (qs.map fun r : Nat => T.int r)) = true then R.ok (T.lst true (qs.map fun r : Nat => T.int r)) [some tp2, some (.int k), some (.lst true (qs.map fun r : Nat => T.int r)), none, none] else .ok (frz (.lst true (qs.map fun r : Nat => T.int r))) [some tp2, some (.int k), some (frz (.lst true (qs.map fun r : Nat => T.int r))), none, none]) = _
    rw [h3, if_neg (by show ¬ (!true && _) = true; simp)]
  have hsr : srs C (.seq (.var 2)) [some tp2, some (.int k), some (.lst true (qs.map fun r : Nat => T.int r)), none, none] = .ok (qs.map fun r : Nat => T.int r) [some tp2, some (.int k), some (.lst false (qs.map fun r : Nat => T.int r)), none, none] := by
    rw [srs, x_ev_var, hrd, R.bind_ok]
    show R.ok (frzs (qs.map fun r : Nat => T.int r)) _ = _
    rw [frzs_of _ hFq]
  have hsum : Iv.prim .sum (.lst false (qs.map fun r : Nat => T.int r)) = some (.int (qs.sum : Nat)) := by
    show (intsT _).map _ = _
    rw [intsT_map, ← sum_cast]; rfl
  obtain ⟨S, hSe⟩ : ∃ S, S = qs.sum := ⟨_, rfl⟩
  have hlc : ev C (.lc [4] (.nm 4) (.seq (.var 2)) .non (.call l (.cons (.var 4) (.cons (.primv .sum 2) .nil)))) [some tp2, some (.int k), some (.lst true (qs.map fun r : Nat => T.int r)), none, none] = .ok (.lst true (qs.map fun r : Nat => fr (Rat.divInt r S))) [some tp2, some (.int k), some (.lst false (qs.map fun r : Nat => T.int r)), none, none] := by
    obtain ⟨e', h1, h2⟩ := lcLoop_gen (φ := fun r : Nat => T.int r) (g := fun r : Nat => [fr (Rat.divInt r S)]) (l := qs) (e := [some tp2, some (.int k), some (.lst false (qs.map fun r : Nat => T.int r)), none, none])
      (f := fun t e1 => (asgTg C (.nm 4) t (Iv.wipe e1 [4])).bind fun _ e2 => (cnd C .non e2).bind fun b e3 => if b = true then (ev C (.call l (.cons (.var 4) (.cons (.primv .sum 2) .nil))) e3).bind fun y e4 => .ok [y] e4 else .ok [] e3)
      (I := fun e => Iv.wipe e [4] = [some tp2, some (.int k), some (.lst false (qs.map fun r : Nat => T.int r)), none, none]) rfl fun r hr e he => by
        have hc := made_nat hl (a := r) (b := S) (by omega) (by have := w2 r hr; omega) (by omega)
        rw [← hSe] at hsum
        refine ⟨[some tp2, some (.int k), some (.lst false (qs.map fun r : Nat => T.int r)), none, some (.int r)], ?_, rfl⟩
        generalize (qs.map fun r : Nat => T.int r) = ql at *
        generalize Rat.divInt r S = d at *
        show ((asgTg C (.nm 4) (.int r) (Iv.wipe e [4])).bind _) = _
        rw [he]
        simp [setNm, gt, rv_int, hsum, frzs, frz, hc]
    rw [ev, hsr, R.bind_ok, h1]
    have hfl : (qs.flatMap fun r : Nat => [fr (Rat.divInt r S)]) = qs.map fun r : Nat => fr (Rat.divInt r S) := by
      clear h1 h2 hle hpos hFq hrd hsr hsum hSe hS l2 w2 hset s2
      induction qs with
      | nil => rfl
      | cons q qs ih => rw [List.flatMap_cons, ih]; rfl
    show (if _ then _ else _) = _
    rw [hfl, if_pos ⟨by rw [List.length_map]; omega, rfl⟩]
    congr 1
  refine ⟨qs.map fun r : Nat => Rat.divInt r S, tp2, t2, by rw [List.length_map, l2], ?_, ?_, ?_⟩
  · have := tot_parts (s := (S : Int)) (by omega) qs
    rw [this, ← hSe]
    exact divInt_self (by omega)
  · intro q hq
    obtain ⟨r, hr, rfl⟩ := List.mem_map.mp hq
    have hr4 := w2 r hr
    refine ⟨divInt_nn (by omega), Wt.divInt (by omega) ?_ ?_, fun h4 => Wt.divInt (by omega) ?_ ?_⟩
    · rw [Int.natAbs_natCast]; omega
    · rw [Int.natAbs_natCast]; omega
    · rw [Int.natAbs_natCast]; omega
    · rw [Int.natAbs_natCast]; rw [l2] at hle; omega
  · have hst : startE 5 [tp, .int k] = [some tp, some (.int k), none, none, none] := rfl
    refine run_io hio (e := [some tp2, some (.int k), some (.lst false (qs.map fun r : Nat => T.int r)), none, none]) ?_ rfl
    rw [hst]
    unfold Tx.lrow
    rw [exs_nx s1, exs_nx s2]
    refine exs_rt ?_
    have e3 : qs.map (fun r : Nat => fr (Rat.divInt r S)) = (qs.map fun r : Nat => Rat.divInt r S).map fr := by rw [List.map_map]; rfl
    rw [x_ex_ret, x_ev_prim, hlc, R.bind_ok, e3, prim_tuple (isFs_frs _)]; rfl
def IsLTab (f : List T → Cr) : Prop := ∀ tp, Tape tp → ∀ a b : Nat, a ≤ 100 → b ≤ 100 → ∃ (m : List (List Rat)) (tp' : T), Tape tp' ∧ Shp a b m ∧ TW 4 m ∧ f [tp, .int a, .int b] = .ok (tab m) tp'
theorem ltable_is {C : Cn} {n l : Nat} (hio : C.io = true) (hn : IsNext (C.call n)) (hl : IsMade (C.call l)) : IsLTab (run C 5 (Tx.ltable n l)) := by
  intro tp ht a b h0 h1
  have hsz : SZ = 16777216 := rfl
  obtain ⟨m, tp', t1, l1, w1, e1⟩ := lcS (C := C) (s := .rg1 (.var 1)) (x := .prim .tuple (.lc [4] (.nm 4) (.rg1 (.var 2)) .non (.call l (.cons (.bin .sub (.cio n 0 (.cons (.int 9) .nil)) (.int 3)) (.cons (.bin .add (.int 1) (.cio n 0 (.cons (.int 3) .nil))) .nil))))) (i := 3) (j := 0) (e := [some tp, some (.int a), some (.int b), none, none]) (its := (List.range a).map fun k : Nat => T.int k) (P := Tape) (W := fun r : List Rat => r.length = b ∧ ∀ q ∈ r, Wt 4 q) frs (by decide) (by simp) rfl (by simp) (by simp; omega) ht
    (srs_rg (by simp [gt, rv_int]) (by omega)) fun t _ tp ht => by
      obtain ⟨r, tp', t1, l1, w1, e1⟩ := lcS (C := C) (s := .rg1 (.var 2)) (x := .call l (.cons (.bin .sub (.cio n 0 (.cons (.int 9) .nil)) (.int 3)) (.cons (.bin .add (.int 1) (.cio n 0 (.cons (.int 3) .nil))) .nil))) (i := 4) (j := 0) (e := [some tp, some (.int a), some (.int b), some t, none]) (its := (List.range b).map fun k : Nat => T.int k) (P := Tape) (W := fun q : Rat => Wt 4 q) fr (by decide) (by simp) rfl (by simp) (by simp; omega) ht
        (srs_rg (by simp [gt, rv_int]) (by omega)) fun u _ tp ht => by
          obtain ⟨r, tp1, q1, q2, q3⟩ := ev_next hn (e := [some tp, some (.int a), some (.int b), some t, some u]) (a := .int 9) (k := 9) rfl ht (by decide) (by decide) rfl
          obtain ⟨s, tp2, p1, p2, p3⟩ := ev_next hn (e := [some tp1, some (.int a), some (.int b), some t, some u]) (a := .int 3) (k := 3) rfl q2 (by decide) (by decide) rfl
          have hc := hl ((r : Int) - 3) (1 + (s : Int)) (by omega) (Nat.lt_of_lt_of_le (by omega : _ < 2 ^ 4) (Nat.pow_le_pow_right (by decide) (by decide))) (Nat.lt_of_lt_of_le (by omega : _ < 2 ^ 4) (Nat.pow_le_pow_right (by decide) (by decide)))
          have hw : Wt 4 (Rat.divInt ((r : Int) - 3) (1 + (s : Int))) := Wt.divInt (by omega) (by omega) (by omega)
          generalize Rat.divInt ((r : Int) - 3) (1 + (s : Int)) = d at *
          refine ⟨d, tp2, p2, hw, ?_⟩
          show ev C _ [some tp, some (.int a), some (.int b), some t, some u] = .ok _ [some tp2, some (.int a), some (.int b), some t, some u]
          rw [x_ev_call, x_evs_cons, x_ev_bin, q3, R.bind_ok]
          show (R.bind (R.bind (ev C (.int 3) [some tp1, some (.int a), some (.int b), some t, some u]) _) _).bind _ = _
          rw [x_ev_int, R.bind_ok, bin_sub_i, R.of_some, R.bind_ok, x_evs_cons, x_ev_bin, x_ev_int, R.bind_ok, p3, R.bind_ok, bin_add_i, R.of_some, R.bind_ok, x_evs_nil, R.bind_ok, R.bind_ok]
          show crR (C.call l [.int ((r : Int) - 3), .int (1 + (s : Int))]) _ = _
          rw [hc]; rfl
      rw [List.length_map, List.length_range] at l1
      refine ⟨r, tp', t1, ⟨l1, w1⟩, ?_⟩
      show ev C _ [some tp, some (.int a), some (.int b), some t, none] = .ok _ [some tp', some (.int a), some (.int b), some t, none]
      have e1 : ev C (.lc [4] (.nm 4) (.rg1 (.var 2)) .non (.call l (.cons (.bin .sub (.cio n 0 (.cons (.int 9) .nil)) (.int 3)) (.cons (.bin .add (.int 1) (.cio n 0 (.cons (.int 3) .nil))) .nil)))) [some tp, some (.int a), some (.int b), some t, none] = .ok (.lst true (r.map fr)) [some tp', some (.int a), some (.int b), some t, none] := e1
      rw [x_ev_prim, e1, R.bind_ok, prim_tuple (isFs_frs _)]; rfl
  rw [List.length_map, List.length_range] at l1
  refine ⟨m, tp', t1, ⟨l1, fun r hr => (w1 r hr).1⟩, fun r hr => (w1 r hr).2, ?_⟩
  have e1 : ev C _ [some tp, some (.int a), some (.int b), none, none] = .ok (.lst true (m.map frs)) [some tp', some (.int a), some (.int b), none, none] := e1
  have hst : startE 5 [tp, .int a, .int b] = [some tp, some (.int a), some (.int b), none, none] := rfl
  refine run_io hio (e := [some tp', some (.int a), some (.int b), none, none]) ?_ rfl
  rw [hst]
  unfold Tx.ltable
  refine exs_rt ?_
  rw [x_ex_ret, x_ev_prim, e1, R.bind_ok, prim_tuple (isFs_tab _)]; rfl
end Iv
set_option Elab.async false
set_option linter.all false
set_option maxRecDepth 100000
set_option exponentiation.threshold 20000
namespace Tx
open Iv
def lproduct (t m : Nat) : Ss :=
    (.cons (.asg (.nm 3) (.lst .nil))
    (.cons (.for (.nm 4) (.seq (.var 0)) (.cons (.app 3 (.prim .tuple (.lc [5] (.nm 5) (.rg1 (.var 2)) .non (.call t (.cons (.lc [6] (.nm 6) (.rg1 (.primv .len 4)) .non (.call m (.cons (.ix 4 (.var 6)) (.cons (.idx (.ix 1 (.var 6)) (.var 5)) .nil)))) .nil)))))
    .nil))
    (.cons (.ret (.primv .tuple 3))
    .nil)))
def lcornB (l p m : Nat) : Ss :=
    (.cons (.par [9, 10] (.cons (.ife (.call l (.cons (.var 7) (.cons (.var 4) .nil))) (.var 4) (.var 7)) (.cons (.call p (.cons (.var 4) (.cons (.ix 0 (.var 2)) .nil))) .nil)))
    (.cons (.asg (.nm 7) (.call p (.cons (.var 7) (.cons (.ix 1 (.var 5)) .nil))))
    (.cons (.asg (.nm 8) (.ife (.call l (.cons (.var 7) (.cons (.var 10) .nil))) (.var 7) (.var 10)))
    (.cons (.app 6 (.ife (.call l (.cons (.var 9) (.cons (.var 8) .nil))) (.call m (.cons (.var 8) (.cons (.var 9) .nil))) (.tup (.cons (.int 0) (.cons (.int 1) .nil)))))
    .nil))))
def lcornA (l p m : Nat) : Ss :=
    (.cons (.par [6, 7] (.cons (.lst .nil) (.cons (.tup (.cons (.int 0) (.cons (.int 1) .nil))) .nil)))
    (.cons (.for (.nm 5) (.rg1 (.primv .len 1)) (lcornB l p m))
    (.cons (.asg (.nm 4) (.call p (.cons (.var 4) (.cons (.ix 0 (.var 2)) .nil))))
    (.cons (.app 3 (.primv .tuple 6))
    .nil))))
def lcorner (l p m : Nat) : Ss :=
    (.cons (.par [3, 4] (.cons (.lst .nil) (.cons (.tup (.cons (.int 0) (.cons (.int 1) .nil))) .nil)))
    (.cons (.for (.nm 2) (.rg1 (.primv .len 0)) (lcornA l p m))
    (.cons (.ret (.primv .tuple 3))
    .nil)))
end Tx
namespace Iv
open PySem
/-! ### readings -/
theorem ev_ife2 {C : Cn} {c x y : E} {e : Env} {b : Bool} {u v : T} (hc : ev C c e = .ok (.bl b) e) (hx : ev C x e = .ok u e) (hy : ev C y e = .ok v e) : ev C (.ife c x y) e = .ok (if b = true then u else v) e := by
  rw [x_ev_ife, hc, R.bind_ok]
  cases b with
  | true => rw [if_pos rfl]; exact hx
  | false => exact hy
theorem ev_c2 {C : Cn} {f : Nat} {x y : E} {e : Env} {a b t : T} (hx : ev C x e = .ok a e) (hy : ev C y e = .ok b e) (ha : isF a = true) (hb : isF b = true) (h : C.call f [a, b] = ok0 t) : ev C (.call f (.cons x (.cons y .nil))) e = .ok t e := by
  rw [x_ev_call, x_evs_cons, hx, R.bind_ok, x_evs_cons, hy, R.bind_ok, x_evs_nil, R.bind_ok, R.bind_ok, R.bind_ok, frzs2 ha hb, h]; rfl
theorem ev_c1 {C : Cn} {f : Nat} {x : E} {e : Env} {a t : T} (hx : ev C x e = .ok a e) (h : C.call f [frz a] = ok0 t) : ev C (.call f (.cons x .nil)) e = .ok t e := by
  rw [x_ev_call, x_evs_cons, hx, R.bind_ok, x_evs_nil, R.bind_ok, R.bind_ok]
  show crR (C.call f [frz a]) e = _
  rw [h]; rfl
theorem ev_c3 {C : Cn} {f : Nat} {x y z : E} {e : Env} {a b c t : T} (hx : ev C x e = .ok a e) (hy : ev C y e = .ok b e) (hz : ev C z e = .ok c e) (ha : isF a = true) (hb : isF b = true) (hc : isF c = true) (h : C.call f [a, b, c] = ok0 t) : ev C (.call f (.cons x (.cons y (.cons z .nil)))) e = .ok t e := by
  rw [x_ev_call, x_evs_cons, hx, R.bind_ok, x_evs_cons, hy, R.bind_ok, x_evs_cons, hz, R.bind_ok, x_evs_nil, R.bind_ok, R.bind_ok, R.bind_ok, R.bind_ok]
  show crR (C.call f [frz a, frz b, frz c]) e = _
  rw [frz_of _ ha, frz_of _ hb, frz_of _ hc, h]; rfl
theorem ev_v {C : Cn} {e : Env} {j : Nat} {t : T} (h : gt e j = some t) (hf : isF t = true) : ev C (.var j) e = .ok t e := by
  rw [x_ev_var]; exact rd_F h hf
theorem ev_ixQ {C : Cn} {e : Env} {i : Nat} {x : E} {l : List Rat} {k : Nat} (h : gt e i = some (frs l)) (hx : ev C x e = .ok (.int k) e) (hk : k < l.length) : ev C (.ix i x) e = .ok (fr (l.getD k 0)) e := by
  rw [x_ev_ix, has, h, hx, R.bind_ok, h]
  simp only [at_frs hk, fz_fr]
theorem ev_ixT {C : Cn} {e : Env} {i : Nat} {x : E} {m : List (List Rat)} {k : Nat} (h : gt e i = some (tab m)) (hx : ev C x e = .ok (.int k) e) (hk : k < m.length) : ev C (.ix i x) e = .ok (frs (m.getD k [])) e := by
  rw [x_ev_ix, has, h, hx, R.bind_ok, h]
  simp only [at_tab hk, fz_frs]
theorem ev_idQ {C : Cn} {e : Env} {a x : E} {l : List Rat} {k : Nat} (ha : ev C a e = .ok (frs l) e) (hx : ev C x e = .ok (.int k) e) (hk : k < l.length) : ev C (.idx a x) e = .ok (fr (l.getD k 0)) e := by
  rw [x_ev_idx, ha, R.bind_ok, hx, R.bind_ok]
  simp only [at_frs hk, fz_fr]
theorem ev_vi {C : Cn} {e : Env} {j : Nat} {k : Int} (h : gt e j = some (.int k)) : ev C (.var j) e = .ok (.int k) e := ev_v h rfl
theorem ev_zero {C : Cn} {e : Env} : ev C (.tup (.cons (.int 0) (.cons (.int 1) .nil))) e = .ok (fr 0) e := rfl
theorem ev_one {C : Cn} {e : Env} : ev C (.tup (.cons (.int 1) (.cons (.int 1) .nil))) e = .ok (fr 1) e := rfl
/-! ### for over a range -/
theorem for_rg {f : T → Env → R Fl} {I : Nat → Env → Prop} {n : Nat} (hb : ∀ k < n, ∀ e, I k e → ∃ e', f (.int k) e = .ok .nx e' ∧ I (k + 1) e') : ∀ (d k : Nat) (e : Env), k + d = n → I k e → ∃ e', forLoop f ((List.range' k d).map fun k : Nat => T.int k) e = .ok .nx e' ∧ I n e'
  | 0, k, e, h, hi => ⟨e, rfl, by rw [Nat.add_zero] at h; rw [← h]; exact hi⟩
  | d + 1, k, e, h, hi => by
    obtain ⟨e1, h1, h2⟩ := hb k (by omega) e hi
    obtain ⟨e2, h3, h4⟩ := for_rg hb d (k + 1) e1 (by omega) h2
    refine ⟨e2, ?_, h4⟩
    rw [List.range'_succ, List.map_cons, for_nx h1, h3]
theorem ex_for_rg {C : Cn} {t : Tg} {a : E} {b : Ss} {n : Nat} {e e0 : Env} (I : Nat → Env → Prop) (ha : ev C a e = .ok (.int n) e0) (hl : n ≤ SZ) (h0 : I 0 e0) (hb : ∀ k < n, ∀ e, I k e → ∃ e', ((asgTg C t (.int k) e).bind fun _ e => exs C b e) = .ok .nx e' ∧ I (k + 1) e') :
    ∃ e', ex C (.for t (.rg1 a) b) e = .ok .nx e' ∧ I n e' := by
  obtain ⟨e', h1, h2⟩ := for_rg (f := fun x e => (asgTg C t x e).bind fun _ e => exs C b e) hb n 0 e0 (by omega) h0
  refine ⟨e', ex_for (srs_rg ha hl) ?_, h2⟩
  rw [List.range_eq_range']
  exact h1
/-! ### the law's own product -/
def IsLP (f : List T → Cr) : Prop := ∀ (a b c k l : Nat) (m n : List (List Rat)), Shp a b m → Shp b c n → TW k m → TW l n → 1 + b * (k + l + 1) ≤ 4000 → a ≤ 1000 → 0 < b → b ≤ 1000 → c ≤ 1000 → f [tab m, tab n, .int c] = ok0 (tab (prod m n c))
theorem lproduct_is {C : Cn} {t s : Nat} (hio : C.io = false) (ht : IsTimes (C.call t)) (hs : IsSum (C.call s)) : IsLP (run C 7 (Tx.lproduct s t)) := by
  intro a b c k l m n hsm hsn hk hl hkl ha hb0 hb hc
  have hkl2 : k + l ≤ 4000 := by
    have : 1 * (k + l + 1) ≤ b * (k + l + 1) := Nat.mul_le_mul_right _ hb0
    omega
  obtain ⟨x', hx⟩ := tt_loop (x0 := some (tab m)) hio ht hs hb hc hsn hl hkl hkl2 m [] none hsm.2 hk (by rw [hsm.1]; simpa using ha)
  refine run_rt hio (e := [some (tab m), some (tab n), some (.int c), some (.lst true ((prod m n c).map frs)), x', none, none]) ?_
  unfold Tx.lproduct startE
  show exs C _ [some (tab m), some (tab n), some (.int c), none, none, none, none] = _
  have ha2 : ex C (.asg (.nm 3) (.lst .nil)) [some (tab m), some (tab n), some (.int c), none, none, none, none] = .ok .nx [some (tab m), some (tab n), some (.int c), some (.lst true []), none, none, none] := by
    simp [setNm, hio, frzs]
  rw [List.map_nil, List.nil_append] at hx
  rw [exs_nx ha2, exs_nx (ex_for (its := m.map frs) (srs_var (C := C) (j := 0) rfl (isF_tab m) rfl) hx)]
  refine exs_rt ?_
  have hp : Iv.prim .tuple (.lst true ((prod m n c).map frs)) = some (tab (prod m n c)) := prim_tuple (isFs_tab _)
  simp [gt, hp]
/-! ### the law's own corner -/
theorem ite_fr {p : Prop} [Decidable p] {a b : Rat} : (if decide p = true then fr a else fr b) = fr (if p then a else b) := by
  by_cases h : p
  · rw [if_pos (decide_eq_true h), if_pos h]
  · rw [if_neg (by rw [decide_eq_false h]; decide), if_neg h]
abbrev kE (x0 x1 x2 x3 x4 x5 x6 x7 x8 x9 x10 : Option T) : Env := [x0, x1, x2, x3, x4, x5, x6, x7, x8, x9, x10]
theorem lc_step {C : Cn} {l p m : Nat} (hio : C.io = false) (hl : IsLess (C.call l)) (hp : IsPlus (C.call p)) (hm : IsMinus (C.call m)) {a b : List Rat} {i j : Nat} (wa : ∀ q ∈ a, Sm q) (wb : ∀ q ∈ b, Sm q) (ua : UpOk a) (ub : UpOk b) (hi : i < a.length) (hj : j < b.length) (hsz : b.length ≤ 1000) {x3 x8 x9 x10 : Option T} :
    exs C (Tx.lcornB l p m) (kE (some (frs a)) (some (frs b)) (some (.int i)) x3 (some (fr (upto a i))) (some (.int j)) (some (.lst true (((List.range j).map (crn a b i)).map fr))) (some (fr (upto b j))) x8 x9 x10) =
      .ok .nx (kE (some (frs a)) (some (frs b)) (some (.int i)) x3 (some (fr (upto a i))) (some (.int j)) (some (.lst true (((List.range (j + 1)).map (crn a b i)).map fr))) (some (fr (upto b (j + 1)))) (some (fr (rmin (upto b (j + 1)) (upto a (i + 1))))) (some (fr (rmax (upto a i) (upto b j)))) (some (fr (upto a (i + 1))))) := by
  have wi := wa _ (getD_mem hi)
  have wj := wb _ (getD_mem hj)
  have ui := (ua i (by omega)).mono (by decide : 1000 ≤ 4000)
  have ui1 := (ua (i + 1) (by omega)).mono (by decide : 1000 ≤ 4000)
  have uj := (ub j (by omega)).mono (by decide : 1000 ≤ 4000)
  have uj1 := (ub (j + 1) (by omega)).mono (by decide : 1000 ≤ 4000)
  have c1 := hl _ _ uj ui
  have c2 := hp _ _ ui wi
  have c3 := hp _ _ uj wj
  have c4 := hl _ _ uj1 ui1
  have w5 : Sm (rmax (upto a i) (upto b j)) := by unfold rmax; split <;> assumption
  have w6 : Sm (rmin (upto b (j + 1)) (upto a (i + 1))) := by unfold rmin; split <;> assumption
  have c5 := hl _ _ w5 w6
  have c6 := hm _ _ w6 w5
  rw [← upto_succ hi] at c2
  rw [← upto_succ hj] at c3
  have e1 : ((List.range (j + 1)).map (crn a b i)).map fr = ((List.range j).map (crn a b i)).map fr ++ [fr (crn a b i j)] := by
    rw [List.range_succ, List.map_append, List.map_append]; rfl
  have e2 : crn a b i j = if rmax (upto a i) (upto b j) < rmin (upto b (j + 1)) (upto a (i + 1)) then rmin (upto b (j + 1)) (upto a (i + 1)) - rmax (upto a i) (upto b j) else 0 := rfl
  have e3 : rmax (upto a i) (upto b j) = if upto b j < upto a i then upto a i else upto b j := rfl
  have e4 : rmin (upto b (j + 1)) (upto a (i + 1)) = if upto b (j + 1) < upto a (i + 1) then upto b (j + 1) else upto a (i + 1) := rfl
  have hlen : (((List.range j).map (crn a b i)).map fr).length < SZ := by have : SZ = 16777216 := rfl; simp; omega
  rw [e1, e2]
  generalize rmax (upto a i) (upto b j) = low at *
  generalize rmin (upto b (j + 1)) (upto a (i + 1)) = en at *
  have g0 : (frs a) = frs a := rfl
  have k1 : ∀ (x5 x6 x7 x8 x9 x10 : Option T) (x4 : Option T), ev C (.ix 0 (.var 2)) (kE (some (frs a)) (some (frs b)) (some (.int i)) x3 x4 x5 x6 x7 x8 x9 x10) = .ok (fr (a.getD i 0)) (kE (some (frs a)) (some (frs b)) (some (.int i)) x3 x4 x5 x6 x7 x8 x9 x10) := fun _ _ _ _ _ _ _ => ev_ixQ rfl (ev_vi rfl) hi
  have k2 : ∀ (x2 x4 x6 x7 x8 x9 x10 : Option T), ev C (.ix 1 (.var 5)) (kE (some (frs a)) (some (frs b)) x2 x3 x4 (some (.int j)) x6 x7 x8 x9 x10) = .ok (fr (b.getD j 0)) (kE (some (frs a)) (some (frs b)) x2 x3 x4 (some (.int j)) x6 x7 x8 x9 x10) := fun _ _ _ _ _ _ _ => ev_ixQ rfl (ev_vi rfl) hj
  generalize upto a i = U at *
  generalize upto a (i + 1) = U1 at *
  generalize upto b j = V at *
  generalize upto b (j + 1) = V1 at *
  generalize a.getD i 0 = ai at *
  generalize b.getD j 0 = bj at *
  generalize (((List.range j).map (crn a b i)).map fr) = cs at *
  unfold Tx.lcornB
  have s1 : ex C (.par [9, 10] (.cons (.ife (.call l (.cons (.var 7) (.cons (.var 4) .nil))) (.var 4) (.var 7)) (.cons (.call p (.cons (.var 4) (.cons (.ix 0 (.var 2)) .nil))) .nil))) (kE (some (frs a)) (some (frs b)) (some (.int i)) x3 (some (fr U)) (some (.int j)) (some (.lst true cs)) (some (fr V)) x8 x9 x10) =
      .ok .nx (kE (some (frs a)) (some (frs b)) (some (.int i)) x3 (some (fr U)) (some (.int j)) (some (.lst true cs)) (some (fr V)) x8 (some (fr low)) (some (fr U1))) := by
    rw [x_ex_par, x_evs_cons, ev_ife2 (ev_c2 (ev_v rfl (isF_fr V)) (ev_v rfl (isF_fr U)) (isF_fr _) (isF_fr _) c1) (ev_v rfl (isF_fr U)) (ev_v rfl (isF_fr V)), R.bind_ok, ite_fr, ← e3, x_evs_cons, ev_c2 (ev_v rfl (isF_fr U)) (k1 _ _ _ _ _ _ _) (isF_fr _) (isF_fr _) c2, R.bind_ok, x_evs_nil, R.bind_ok, R.bind_ok, R.bind_ok]
    simp [parS, setNm, hio]
  have s2 : ex C (.asg (.nm 7) (.call p (.cons (.var 7) (.cons (.ix 1 (.var 5)) .nil)))) (kE (some (frs a)) (some (frs b)) (some (.int i)) x3 (some (fr U)) (some (.int j)) (some (.lst true cs)) (some (fr V)) x8 (some (fr low)) (some (fr U1))) =
      .ok .nx (kE (some (frs a)) (some (frs b)) (some (.int i)) x3 (some (fr U)) (some (.int j)) (some (.lst true cs)) (some (fr V1)) x8 (some (fr low)) (some (fr U1))) := by
    rw [x_ex_asg, ev_c2 (ev_v rfl (isF_fr V)) (k2 _ _ _ _ _ _ _) (isF_fr _) (isF_fr _) c3, R.bind_ok, asg_nm hio (by simp)]; rfl
  have s3 : ex C (.asg (.nm 8) (.ife (.call l (.cons (.var 7) (.cons (.var 10) .nil))) (.var 7) (.var 10))) (kE (some (frs a)) (some (frs b)) (some (.int i)) x3 (some (fr U)) (some (.int j)) (some (.lst true cs)) (some (fr V1)) x8 (some (fr low)) (some (fr U1))) =
      .ok .nx (kE (some (frs a)) (some (frs b)) (some (.int i)) x3 (some (fr U)) (some (.int j)) (some (.lst true cs)) (some (fr V1)) (some (fr en)) (some (fr low)) (some (fr U1))) := by
    rw [x_ex_asg, ev_ife2 (ev_c2 (ev_v rfl (isF_fr V1)) (ev_v rfl (isF_fr U1)) (isF_fr _) (isF_fr _) c4) (ev_v rfl (isF_fr V1)) (ev_v rfl (isF_fr U1)), R.bind_ok, ite_fr, ← e4, asg_nm hio (by simp)]; rfl
  have s4 : ex C (.app 6 (.ife (.call l (.cons (.var 9) (.cons (.var 8) .nil))) (.call m (.cons (.var 8) (.cons (.var 9) .nil))) (.tup (.cons (.int 0) (.cons (.int 1) .nil))))) (kE (some (frs a)) (some (frs b)) (some (.int i)) x3 (some (fr U)) (some (.int j)) (some (.lst true cs)) (some (fr V1)) (some (fr en)) (some (fr low)) (some (fr U1))) =
      .ok .nx (kE (some (frs a)) (some (frs b)) (some (.int i)) x3 (some (fr U)) (some (.int j)) (some (.lst true (cs ++ [fr (if low < en then en - low else 0)]))) (some (fr V1)) (some (fr en)) (some (fr low)) (some (fr U1))) := by
    rw [x_ex_app, ev_ife2 (ev_c2 (ev_v rfl (isF_fr low)) (ev_v rfl (isF_fr en)) (isF_fr _) (isF_fr _) c5) (ev_c2 (ev_v rfl (isF_fr en)) (ev_v rfl (isF_fr low)) (isF_fr _) (isF_fr _) c6) ev_zero, R.bind_ok, ite_fr]
    show (if cs.length < SZ then R.ok Fl.nx _ else .bad) = _
    rw [if_pos hlen]; rfl
  rw [exs_nx s1, exs_nx s2, exs_nx s3, exs_nx s4]; rfl
def IsLC (f : List T → Cr) : Prop := ∀ a b : List Rat, (∀ q ∈ a, Sm q) → (∀ q ∈ b, Sm q) → a.length ≤ 1000 → b.length ≤ 1000 → UpOk a → UpOk b → f [frs a, frs b] = ok0 (tab (crnT a b))
theorem lcorner_is {C : Cn} {l p m : Nat} (hio : C.io = false) (hl : IsLess (C.call l)) (hp : IsPlus (C.call p)) (hm : IsMinus (C.call m)) : IsLC (run C 11 (Tx.lcorner l p m)) := by
  intro a b wa wb la lb ua ub
  have hsz : SZ = 16777216 := rfl
  have s1 : ex C (.par [3, 4] (.cons (.lst .nil) (.cons (.tup (.cons (.int 0) (.cons (.int 1) .nil))) .nil))) (kE (some (frs a)) (some (frs b)) none none none none none none none none none) = .ok .nx (kE (some (frs a)) (some (frs b)) none (some (.lst true [])) (some (fr 0)) none none none none none none) := by
    simp [parS, setNm, hio, frzs, fr0]
  obtain ⟨e', s2, ⟨x2, x5, x6, x7, x8, x9, x10, rfl⟩⟩ := ex_for_rg (C := C) (t := .nm 2) (a := .primv .len 0) (b := Tx.lcornA l p m) (n := a.length) (e := kE (some (frs a)) (some (frs b)) none (some (.lst true [])) (some (fr 0)) none none none none none none) (e0 := kE (some (frs a)) (some (frs b)) none (some (.lst true [])) (some (fr 0)) none none none none none none)
    (fun i e => ∃ x2 x5 x6 x7 x8 x9 x10, e = kE (some (frs a)) (some (frs b)) x2 (some (.lst true (((List.range i).map fun i => (List.range b.length).map fun j => crn a b i j).map frs))) (some (fr (upto a i))) x5 x6 x7 x8 x9 x10)
    (by simp [gt, prim_len_frs]) (by omega) ⟨_, _, _, _, _, _, _, rfl⟩ (by
      rintro i hi e ⟨x2, x5, x6, x7, x8, x9, x10, rfl⟩
      have t1 : ex C (.par [6, 7] (.cons (.lst .nil) (.cons (.tup (.cons (.int 0) (.cons (.int 1) .nil))) .nil))) (kE (some (frs a)) (some (frs b)) (some (.int i)) (some (.lst true (((List.range i).map fun i => (List.range b.length).map fun j => crn a b i j).map frs))) (some (fr (upto a i))) x5 x6 x7 x8 x9 x10) =
          .ok .nx (kE (some (frs a)) (some (frs b)) (some (.int i)) (some (.lst true (((List.range i).map fun i => (List.range b.length).map fun j => crn a b i j).map frs))) (some (fr (upto a i))) x5 (some (.lst true [])) (some (fr 0)) x8 x9 x10) := by
        generalize upto a i = U
        generalize (((List.range i).map fun i => (List.range b.length).map fun j => crn a b i j).map frs) = rs
        simp [parS, setNm, hio, frzs, fr0]
      obtain ⟨e', t2, ⟨y5, y8, y9, y10, rfl⟩⟩ := ex_for_rg (C := C) (t := .nm 5) (a := .primv .len 1) (b := Tx.lcornB l p m) (n := b.length)
        (e := kE (some (frs a)) (some (frs b)) (some (.int i)) (some (.lst true (((List.range i).map fun i => (List.range b.length).map fun j => crn a b i j).map frs))) (some (fr (upto a i))) x5 (some (.lst true [])) (some (fr 0)) x8 x9 x10)
        (e0 := kE (some (frs a)) (some (frs b)) (some (.int i)) (some (.lst true (((List.range i).map fun i => (List.range b.length).map fun j => crn a b i j).map frs))) (some (fr (upto a i))) x5 (some (.lst true [])) (some (fr 0)) x8 x9 x10)
        (fun j e => ∃ x5 x8 x9 x10, e = kE (some (frs a)) (some (frs b)) (some (.int i)) (some (.lst true (((List.range i).map fun i => (List.range b.length).map fun j => crn a b i j).map frs))) (some (fr (upto a i))) x5 (some (.lst true (((List.range j).map (crn a b i)).map fr))) (some (fr (upto b j))) x8 x9 x10)
        (by simp [gt, prim_len_frs]) (by omega) ⟨_, _, _, _, rfl⟩ (by
          rintro j hj e ⟨x5, x8, x9, x10, rfl⟩
          refine ⟨_, ?_, ⟨some (.int j), some (fr (rmin (upto b (j + 1)) (upto a (i + 1)))), some (fr (rmax (upto a i) (upto b j))), some (fr (upto a (i + 1))), rfl⟩⟩
          rw [asg_nm hio (by simp), R.bind_ok]
          exact lc_step hio hl hp hm wa wb ua ub hi hj lb)
      have c1 := hp _ _ ((ua i (by omega)).mono (by decide : 1000 ≤ 4000)) (wa _ (getD_mem hi))
      rw [← upto_succ hi] at c1
      have e1 : ((List.range (i + 1)).map fun i => (List.range b.length).map fun j => crn a b i j).map frs = (((List.range i).map fun i => (List.range b.length).map fun j => crn a b i j).map frs) ++ [frs ((List.range b.length).map (crn a b i))] := by
        rw [List.range_succ, List.map_append, List.map_append]; rfl
      have hlen : (((List.range i).map fun i => (List.range b.length).map fun j => crn a b i j).map frs).length < SZ := by simp; omega
      refine ⟨kE (some (frs a)) (some (frs b)) (some (.int i)) (some (.lst true (((List.range (i + 1)).map fun i => (List.range b.length).map fun j => crn a b i j).map frs))) (some (fr (upto a (i + 1)))) y5 (some (.lst true (((List.range b.length).map (crn a b i)).map fr))) (some (fr (upto b b.length))) y8 y9 y10, ?_, ⟨_, _, _, _, _, _, _, rfl⟩⟩
      rw [asg_nm hio (by simp), R.bind_ok]
      show exs C (Tx.lcornA l p m) (kE (some (frs a)) (some (frs b)) (some (.int i)) (some (.lst true (((List.range i).map fun i => (List.range b.length).map fun j => crn a b i j).map frs))) (some (fr (upto a i))) x5 x6 x7 x8 x9 x10) = _
      unfold Tx.lcornA
      rw [exs_nx t1, exs_nx t2, e1]
      generalize upto b b.length = V at *
      have k1 : ∀ (x3 x4 x5 x6 x7 x8 x9 x10 : Option T), ev C (.ix 0 (.var 2)) (kE (some (frs a)) (some (frs b)) (some (.int i)) x3 x4 x5 x6 x7 x8 x9 x10) = .ok (fr (a.getD i 0)) (kE (some (frs a)) (some (frs b)) (some (.int i)) x3 x4 x5 x6 x7 x8 x9 x10) := fun _ _ _ _ _ _ _ _ => ev_ixQ rfl (ev_vi rfl) hi
      generalize (((List.range i).map fun i => (List.range b.length).map fun j => crn a b i j).map frs) = rs at *
      have hpt : Iv.prim .tuple (.lst true (((List.range b.length).map (crn a b i)).map fr)) = some (frs ((List.range b.length).map (crn a b i))) := prim_tuple (isFs_frs _)
      generalize ((List.range b.length).map (crn a b i)) = cs at *
      generalize upto a i = U at *
      generalize upto a (i + 1) = U1 at *
      generalize a.getD i 0 = ai at *
      rw [exs_nx (e1 := kE (some (frs a)) (some (frs b)) (some (.int i)) (some (.lst true rs)) (some (fr U1)) y5 (some (.lst true (cs.map fr))) (some (fr V)) y8 y9 y10)]
      · rw [exs_nx (e1 := kE (some (frs a)) (some (frs b)) (some (.int i)) (some (.lst true (rs ++ [frs cs]))) (some (fr U1)) y5 (some (.lst true (cs.map fr))) (some (fr V)) y8 y9 y10)]
        · rfl
        · rw [x_ex_app, x_ev_primv]
          show ((R.of (Iv.prim .tuple (.lst true (cs.map fr))) _).bind _) = _
          rw [hpt, R.of_some, R.bind_ok]
          show (if rs.length < SZ then R.ok Fl.nx _ else .bad) = _
          rw [if_pos hlen]; rfl
      · rw [x_ex_asg, ev_c2 (ev_v rfl (isF_fr U)) (k1 _ _ _ _ _ _ _ _) (isF_fr _) (isF_fr _) c1, R.bind_ok, asg_nm hio (by simp)]; rfl)
  refine run_rt hio (e := kE (some (frs a)) (some (frs b)) x2 (some (.lst true (((List.range a.length).map fun i => (List.range b.length).map fun j => crn a b i j).map frs))) (some (fr (upto a a.length))) x5 x6 x7 x8 x9 x10) ?_
  unfold Tx.lcorner startE
  show exs C _ (kE (some (frs a)) (some (frs b)) none none none none none none none none none) = _
  rw [exs_nx s1, exs_nx s2]
  refine exs_rt ?_
  have hpt : Iv.prim .tuple (.lst true (((List.range a.length).map fun i => (List.range b.length).map fun j => crn a b i j).map frs)) = some (tab (crnT a b)) := prim_tuple (isFs_tab _)
  rw [x_ex_ret, x_ev_primv]
  show ((R.of (Iv.prim .tuple (.lst true (((List.range a.length).map fun i => (List.range b.length).map fun j => crn a b i j).map frs))) _).bind _) = _
  rw [hpt]; rfl
end Iv
set_option Elab.async false
set_option linter.all false
set_option maxRecDepth 100000
set_option exponentiation.threshold 20000
namespace Tx
open Iv
def good (m : Nat) : Ss :=
    (.cons (.ife (.or (.not (.isiv 0 .tuple)) (.or (.cmp .ne (.primv .len 0) (.int 2)) (.cmp .ne (.lc [1] (.nm 1) (.seq (.var 0)) (.som (.or (.isiv 1 .bool) (.not (.isiv 1 .int)))) (.var 1)) (.lst .nil)))) (.cons (.ret (.bl false))
    .nil) .nil)
    (.cons (.ret (.and (.cmp .gt (.ix 0 (.int 1)) (.int 0)) (.cmpR .eq (.call m (.cons (.ix 0 (.int 0)) (.cons (.ix 0 (.int 1)) .nil))) 0)))
    .nil))
def is_coupling (t r c : Nat) : Ss :=
    (.cons (.ife (.or (.not (.call t (.cons (.var 2) .nil))) (.or (.cmp .ne (.primv .len 2) (.primv .len 0)) (.not (.prim .all (.lc [3] (.nm 3) (.seq (.var 2)) .non (.cmp .eq (.primv .len 3) (.primv .len 1))))))) (.cons (.ret (.bl false))
    .nil) .nil)
    (.cons (.ife (.not (.prim .all (.lc2 [3, 4] (.nm 3) (.seq (.var 2)) .non [4] (.nm 4) (.seq (.var 3)) .non (.cmp .ge (.ix 4 (.int 0)) (.int 0))))) (.cons (.ret (.bl false))
    .nil) .nil)
    (.cons (.ret (.and (.cmpR .eq (.call r (.cons (.var 2) .nil)) 0) (.cmpR .eq (.call c (.cons (.var 2) (.cons (.primv .len 1) .nil))) 1)))
    .nil)))
def lisB (g : Nat) : Ss :=
    (.cons (.ife (.cmp .ne (.lc [5] (.nm 5) (.seq (.var 3)) (.som (.or (.not (.call g (.cons (.var 5) .nil))) (.cmp .lt (.ix 5 (.int 0)) (.int 0)))) (.var 5)) (.lst .nil)) (.cons (.ret (.bl false))
    .nil) .nil)
    .nil)
def lis (g t : Nat) : Ss :=
    (.cons (.ife (.or (.not (.isiv 2 .tuple)) (.or (.cmp .ne (.primv .len 2) (.primv .len 0)) (.cmp .ne (.lc [3] (.nm 3) (.seq (.var 2)) (.som (.or (.not (.isiv 3 .tuple)) (.cmp .ne (.primv .len 3) (.primv .len 1)))) (.var 3)) (.lst .nil)))) (.cons (.ret (.bl false))
    .nil) .nil)
    (.cons (.for (.nm 3) (.seq (.var 2)) (lisB g))
    (.cons (.ife (.cmp .ne (.lc [4] (.nm 4) (.rg1 (.primv .len 0)) (.som (.cmp .ne (.call t (.cons (.ix 2 (.var 4)) .nil)) (.ix 0 (.var 4)))) (.var 4)) (.lst .nil)) (.cons (.ret (.bl false))
    .nil) .nil)
    (.cons (.ret (.cmp .eq (.lc [4] (.nm 4) (.rg1 (.primv .len 1)) (.som (.cmp .ne (.call t (.cons (.lc [3] (.nm 3) (.seq (.var 2)) .non (.ix 3 (.var 4))) .nil)) (.ix 1 (.var 4)))) (.var 4)) (.lst .nil)))
    .nil))))
end Tx
namespace Iv
open PySem
/-! ### lists against [] -/
theorem soks_of {us : List T} (h : ∀ u ∈ us, sok u = true) : soks us = true := by
  have := soks_map (f := id) h
  rwa [List.map_id] at this
theorem deps_of {us : List T} {k : Nat} (h : ∀ u ∈ us, dep u ≤ k) : deps us ≤ k := by
  have := deps_map (f := id) h
  rwa [List.map_id] at this
theorem shp_lst {o : Bool} {us : List T} (h : ∀ u ∈ us, Gd 59 u) : shp (.lst o us) = true := by
  unfold shp
  have h1 : sok (.lst o us) = true := by unfold sok; exact soks_of fun u hu => (h u hu).2.1
  have h2 : dep (.lst o us) ≤ 60 := by unfold dep; have := deps_of fun u hu => (h u hu).2.2.1; omega
  rw [h1, decide_eq_true h2]; rfl
theorem cmp_ne_nil {o : Bool} {us : List T} (h : ∀ u ∈ us, Gd 59 u) : cmp .ne (.lst o us) (.lst true (frzs [])) = some (!us.isEmpty) := by
  rw [cmpNe (shp_lst h) rfl]
  cases us <;> rfl
theorem cmp_eq_nil {o : Bool} {us : List T} (h : ∀ u ∈ us, Gd 59 u) : cmp .eq (.lst o us) (.lst true (frzs [])) = some us.isEmpty := by
  rw [cmpEq (shp_lst h) rfl]
  cases us <;> rfl
theorem ev_ne_nil {C : Cn} {x : E} {e : Env} {o : Bool} {us : List T} (hx : ev C x e = .ok (.lst o us) e) (h : ∀ u ∈ us, Gd 59 u) : ev C (.cmp .ne x (.lst .nil)) e = .ok (.bl (!us.isEmpty)) e := by
  rw [x_ev_cmp, hx, R.bind_ok, x_ev_lst, x_evs_nil, R.bind_ok, R.bind_ok, cmp_ne_nil h]; rfl
theorem ev_eq_nil {C : Cn} {x : E} {e : Env} {o : Bool} {us : List T} (hx : ev C x e = .ok (.lst o us) e) (h : ∀ u ∈ us, Gd 59 u) : ev C (.cmp .eq x (.lst .nil)) e = .ok (.bl us.isEmpty) e := by
  rw [x_ev_cmp, hx, R.bind_ok, x_ev_lst, x_evs_nil, R.bind_ok, R.bind_ok, cmp_eq_nil h]; rfl
theorem ev_or2 {C : Cn} {x y : E} {e : Env} {a b : Bool} (hx : ev C x e = .ok (.bl a) e) (hy : a = false → ev C y e = .ok (.bl b) e) : ev C (.or x y) e = .ok (.bl (a || b)) e := by
  rw [x_ev_or, hx, R.bind_ok]
  cases a with
  | true => rfl
  | false => rw [Bool.false_or]; exact hy rfl
theorem ev_and2 {C : Cn} {x y : E} {e : Env} {a b : Bool} (hx : ev C x e = .ok (.bl a) e) (hy : a = true → ev C y e = .ok (.bl b) e) : ev C (.and x y) e = .ok (.bl (a && b)) e := by
  rw [x_ev_and, hx, R.bind_ok]
  cases a with
  | false => rfl
  | true => rw [Bool.true_and]; exact hy rfl
theorem ev_not2 {C : Cn} {x : E} {e : Env} {a : Bool} (hx : ev C x e = .ok (.bl a) e) : ev C (.not x) e = .ok (.bl (!a)) e := by
  rw [x_ev_not, hx, R.bind_ok]
theorem ev_istup {C : Cn} {j : Nat} {e : Env} {t : T} {k : Nat} (h : gt e j = some t) (ht : Gd k t) : ev C (.isiv j .tuple) e = .ok (.bl (isTup t)) e := by
  rw [x_ev_isiv, h]
  simp only [kd_tuple ht]
  rfl
theorem ex_ife_ret {C : Cn} {c x : E} {e : Env} {b : Bool} {u : T} (hc : ev C c e = .ok (.bl b) e) (hx : ev C x e = .ok u e) : ex C (.ife c (.cons (.ret x) .nil) .nil) e = if b = true then .ok (.rt u) e else .ok .nx e := by
  rw [x_ex_ife, hc, R.bind_ok]
  cases b with
  | false => rfl
  | true =>
    rw [if_pos rfl]
    show exs C _ e = _
    rw [exs_rt]
    rw [x_ex_ret, hx]; rfl
theorem srs_T {C : Cn} {j : Nat} {e : Env} {ts : List T} (h : gt e j = some (.tup ts)) (hf : isFs ts = true) : srs C (.seq (.var j)) e = .ok (ts.map id) e := by
  rw [List.map_id]
  exact srs_var h (by unfold isF; exact hf) rfl
/-! ### fractions, by the law's own -/
theorem good_is {C : Cn} {m : Nat} (hio : C.io = false) (hm : IsMade (C.call m)) : IsFrac (run C 2 (Tx.good m)) := by
  intro t ht
  have hF := ht.1
  by_cases htup : isTup t = true
  · cases t <;> first | cases htup | skip
    rename_i ts
    have g := ht.mono (j := 60) (k := 59 + 1) (by decide) |>.tup
    have hk : isKd (.tup ts) .tuple = some true := rfl
    have hlen : ev C (.cmp .ne (.primv .len 0) (.int 2)) [some (.tup ts), none] = .ok (.bl (!decide (ts.length = 2))) [some (.tup ts), none] := by
      have h2 : cmp .ne (.int (ts.length : Int)) (.int 2) = some (!decide (ts.length = 2)) := by
        rw [cmpNe rfl rfl, eqT_int]
        congr 2
        rw [Bool.beq_eq_decide_eq, decide_eq_decide]; omega
      simp [gt, Iv.prim, h2, boolR]
    have h0 := ev_not2 (ev_istup (C := C) (j := 0) (e := [some (.tup ts), none]) rfl ht)
    by_cases hl : ts.length = 2
    · have hlc := lcAc id (C := C) (s := .seq (.var 0)) (c := .or (.isiv 1 .bool) (.not (.isiv 1 .int))) (x := .var 1) (i := 1) (l := ts) (e := [some (.tup ts), none]) (fun u => !isIntT u) id (srs_T rfl g.1) (by simp) hio rfl (by rw [hl]; decide) (fun u hu => by
        obtain ⟨k1, b, k2, k3⟩ := kd_int (g.mem u hu)
        have hb1 : ev C (.isiv 1 .bool) [some (.tup ts), some u] = .ok (.bl b) [some (.tup ts), some u] := by simp [gt, k2, boolR]
        have hb2 : ev C (.isiv 1 .int) [some (.tup ts), some u] = .ok (.bl (isIntT u || isKd u .bool == some true)) [some (.tup ts), some u] := by simp [gt, k1, boolR]
        have e1 : (!isIntT u) = (b || !(isIntT u || isKd u .bool == some true)) := by
          rw [k2]
          cases hi : isIntT u with
          | true => rw [k3 hi]; rfl
          | false => cases b <;> rfl
        show ev C _ [some (.tup ts), some u] = _
        rw [e1]
        exact ev_or2 hb1 fun _ => ev_not2 hb2) (fun u hu _ => ev_v rfl (g.mem u hu).1)
      rw [List.map_id] at hlc
      have hnn := ev_ne_nil hlc fun u hu => g.mem u (List.mem_filter.mp hu).1
      have hc := ev_or2 h0 fun _ => ev_or2 hlen fun _ => hnn
      rw [decide_eq_true hl] at hc
      have s1 := ex_ife_ret (x := .bl false) (u := .bl false) hc rfl
      obtain ⟨a, b, rfl⟩ : ∃ a b, ts = [a, b] := by
        rcases ts with _ | ⟨a, _ | ⟨b, _ | ⟨c, ts⟩⟩⟩ <;> simp at hl
        exact ⟨a, b, rfl⟩
      by_cases hi : isIntT a = true ∧ isIntT b = true
      · obtain ⟨ha, hb⟩ := hi
        have e1 : ([a, b].filter fun u => !isIntT u) = [] := by simp [ha, hb]
        rw [e1] at s1
        have s1 : ex C _ [some (.tup [a, b]), none] = .ok .nx [some (.tup [a, b]), none] := s1
        obtain ⟨n, rfl⟩ : ∃ n, a = .int n := by cases a <;> first | exact ⟨_, rfl⟩ | cases ha
        obtain ⟨d, rfl⟩ : ∃ n, b = .int n := by cases b <;> first | exact ⟨_, rfl⟩ | cases hb
        have gn : n.natAbs < 2 ^ 4000 := of_decide_eq_true (Gds.cons.mp g).1.2.2.2
        have gd : d.natAbs < 2 ^ 4000 := of_decide_eq_true (Gds.cons.mp (Gds.cons.mp g).2).1.2.2.2
        have s3 : ex C (.ret (.and (.cmp .gt (.ix 0 (.int 1)) (.int 0)) (.cmpR .eq (.call m (.cons (.ix 0 (.int 0)) (.cons (.ix 0 (.int 1)) .nil))) 0))) [some (.tup [.int n, .int d]), none] = .ok (.rt (.bl (ratOf (.tup [.int n, .int d])).isSome)) [some (.tup [.int n, .int d]), none] := by
          have a0 : at_ (.tup [.int n, .int d]) (.int 0) = some (.int n) := rfl
          have a1 : at_ (.tup [.int n, .int d]) (.int 1) = some (.int d) := rfl
          by_cases hd : 0 < d
          · have hmade := hm n d (by omega) (by calc _ < 2 ^ 4000 := gn
                                                    _ ≤ 2 ^ 9000 := Nat.pow_le_pow_right (by decide) (by decide)) (by calc _ < 2 ^ 4000 := gd
                                                                                                                          _ ≤ 2 ^ 9000 := Nat.pow_le_pow_right (by decide) (by decide))
            have hs1 : shp (fr (Rat.divInt n d)) = true := rfl
            have hs2 : shp (.tup [.int n, .int d]) = true := rfl
            have he := eqT_fr (q := Rat.divInt n d) (n := n) (d := d)
            have hr : (ratOf (.tup [.int n, .int d])).isSome = decide ((Rat.divInt n d).num = n ∧ ((Rat.divInt n d).den : Int) = d) := by
              rw [ratOf_tup]
              by_cases hq : (Rat.divInt n d).num = n ∧ ((Rat.divInt n d).den : Int) = d
              · rw [if_pos ⟨hd, hq⟩, decide_eq_true hq]; rfl
              · rw [if_neg (fun z => hq z.2), decide_eq_false hq]; rfl
            rw [hr, ← he]
            simp [has, gt, a0, a1, fz, isF, frzs, frz, hmade, boolR, cmp, hs1, hs2, hd]
          · have hr : (ratOf (.tup [.int n, .int d])).isSome = false := by unfold ratOf; simp [hd]
            rw [hr]
            simp [has, gt, a0, a1, fz, isF, boolR, cmp, hd]
        exact run_rt hio (by unfold Tx.good; exact (exs_nx s1).trans (exs_rt s3))
      · have hr : (ratOf (.tup [a, b])).isSome = false := by
          cases a <;> cases b <;> first | rfl | exact absurd ⟨rfl, rfl⟩ hi
        have e1 : ([a, b].filter fun u => !isIntT u).isEmpty = false := by
          cases ha : isIntT a <;> cases hb : isIntT b <;> simp [ha, hb] at hi ⊢
        rw [e1] at s1
        rw [hr]
        exact run_rt hio (by unfold Tx.good; exact exs_rt s1)
    · have hr : (ratOf (.tup ts)).isSome = false := by
        rcases ts with _ | ⟨a, _ | ⟨b, _ | ⟨c, ts⟩⟩⟩ <;> first | rfl | exact absurd rfl hl | skip
        all_goals (cases a <;> first | rfl | (cases b <;> rfl))
      rw [decide_eq_false hl] at hlen
      have hc := ev_or2 (b := true) h0 fun _ => ev_or2 (b := true) (y := .cmp .ne (.lc [1] (.nm 1) (.seq (.var 0)) (.som (.or (.isiv 1 .bool) (.not (.isiv 1 .int)))) (.var 1)) (.lst .nil)) hlen (fun h => by cases h)
      have s1 := ex_ife_ret (x := .bl false) (u := .bl false) hc rfl
      rw [hr]
      exact run_rt hio (by unfold Tx.good; exact exs_rt s1)
  · have htup := Bool.eq_false_iff.mpr htup
    have hr : (ratOf t).isSome = false := by cases t <;> first | rfl | cases htup
    rw [hr]
    have h0 := ev_not2 (ev_istup (C := C) (j := 0) (e := [some t, none]) rfl ht)
    rw [htup] at h0
    have hc := ev_or2 (b := true) (y := .or (.cmp .ne (.primv .len 0) (.int 2)) (.cmp .ne (.lc [1] (.nm 1) (.seq (.var 0)) (.som (.or (.isiv 1 .bool) (.not (.isiv 1 .int)))) (.var 1)) (.lst .nil))) h0 (fun h => by cases h)
    have s1 := ex_ife_ret (x := .bl false) (u := .bl false) hc rfl
    exact run_rt hio (by unfold Tx.good; exact exs_rt s1)
end Iv
set_option Elab.async false
set_option linter.all false
set_option maxRecDepth 100000
set_option exponentiation.threshold 20000
namespace Iv
open PySem
/-! ### couplings -/
def Fine (a b : List Rat) (t : T) : Prop := ∃ m, t = tab m ∧ Shp a.length b.length m ∧ ∀ r ∈ m, ∀ q ∈ r, 0 ≤ q
def cpV (a b : List Rat) (m : List (List Rat)) : Bool := decide (rowSums m = a) && decide (rowSums (turned m b.length) = b)
def IsCp (f : List T → Cr) : Prop := ∀ (a b : List Rat) (t : T), Vl 59 t → a.length ≤ 4 → b.length ≤ 4 → (∀ m, t = tab m → TW 900 m) →
  (∀ m, t = tab m → Shp a.length b.length m → (∀ r ∈ m, ∀ q ∈ r, 0 ≤ q) → f [frs a, frs b, t] = ok0 (.bl (cpV a b m))) ∧ (¬ Fine a b t → f [frs a, frs b, t] = ok0 (.bl false))
theorem boolsT_mp {α : Type} (g : α → Bool) : ∀ l : List α, boolsT (l.map fun t => .bl (g t)) = some (l.map g)
  | [] => rfl
  | t :: l => by rw [List.map_cons, boolsT, boolsT_mp g l]; rfl
theorem prim_all2 {α : Type} {o : Bool} {g : α → Bool} {l : List α} : Iv.prim .all (.lst o (l.map fun t => .bl (g t))) = some (.bl (l.all g)) := by
  show (boolsT _).map _ = _
  rw [boolsT_mp]
  simp
theorem tabB_tab {x y : Nat} {m : List (List Rat)} (h : Shp x y m) : tabB (tab m) = true := by
  show ((m.map frs).all rowB && (m.map frs).all fun r => lenT r == lenT ((m.map frs).getD 0 .non)) = true
  have h1 : (m.map frs).all rowB = true := by
    rw [List.all_map, List.all_eq_true]; intro r _; exact rowB_frs r
  rw [h1, Bool.true_and, List.all_map, List.all_eq_true]
  intro r hr
  show (lenT (frs r) == lenT ((m.map frs).getD 0 .non)) = true
  cases m with
  | nil => cases hr
  | cons r0 m =>
    show (lenT (frs r) == lenT (frs r0)) = true
    rw [lenT_frs, lenT_frs, h.2 r hr, h.2 r0 List.mem_cons_self]
    exact beq_self_eq_true _
theorem tab_of {ts : List T} (h : ∀ u ∈ ts, rowB u = true) : ∃ m : List (List Rat), ts = m.map frs := by
  induction ts with
  | nil => exact ⟨[], rfl⟩
  | cons t ts ih =>
    obtain ⟨m, rfl⟩ := ih fun u hu => h u (List.mem_cons_of_mem _ hu)
    obtain ⟨l, rfl⟩ := rowB_iff.mp (h t List.mem_cons_self)
    exact ⟨l :: m, rfl⟩
theorem fr_inj {p q : Rat} (h : fr p = fr q) : p = q := (eqT_frq p q).mp (by rw [h]; exact eqT_refl_fr q)
theorem frs_inj {p q : List Rat} (h : frs p = frs q) : p = q := by
  have h1 : p.map fr = q.map fr := by injection h
  exact List.map_inj_right (fun a b => fr_inj) |>.mp h1
theorem tab_inj {p q : List (List Rat)} (h : tab p = tab q) : p = q := by
  have h1 : p.map frs = q.map frs := by injection h
  exact List.map_inj_right (fun a b => frs_inj) |>.mp h1
theorem eqT_frs_d (l m : List Rat) : eqT (frs l) (frs m) = decide (l = m) := by
  rw [Bool.eq_iff_iff, eqT_frs]; simp
theorem cmp_frs (l m : List Rat) : cmp .eq (frs l) (frs m) = some (decide (l = m)) := by rw [cmpEq (shp_frs l) (shp_frs m), eqT_frs_d]
theorem cmp_ne_fr (p q : Rat) : cmp .ne (fr p) (fr q) = some (!decide (p = q)) := by
  rw [cmpNe (shp_fr p) (shp_fr q)]
  congr 2
  rw [Bool.eq_iff_iff, eqT_frq]; simp
theorem cmp_ne_nat (a b : Nat) : cmp .ne (.int a) (.int b) = some (!decide (a = b)) := by
  rw [cmpNe rfl rfl, eqT_int]
  congr 2
  rw [Bool.beq_eq_decide_eq, decide_eq_decide]; omega
theorem flat2 {α : Type} (g : α → T) (m : List (List α)) : (m.flatMap fun r => r.flatMap fun q => [g q]) = m.flatten.map g := by
  induction m with
  | nil => rfl
  | cons r m ih =>
    rw [List.flatMap_cons, ih, List.flatten_cons, List.map_append]
    congr 1
    induction r with
    | nil => rfl
    | cons q r ih => rw [List.flatMap_cons, ih]; rfl
theorem flatten_len {k : Nat} : ∀ {m : List (List Rat)}, (∀ r ∈ m, r.length ≤ k) → m.flatten.length ≤ m.length * k
  | [], _ => Nat.zero_le _
  | r :: m, h => by
    have h1 := h r List.mem_cons_self
    have h2 := flatten_len fun r' hr' => h r' (List.mem_cons_of_mem _ hr')
    rw [List.flatten_cons, List.length_append, List.length_cons, Nat.succ_mul]; omega
theorem num_nn {q : Rat} : 0 ≤ q.num ↔ 0 ≤ q := Rat.num_nonneg
theorem isTup_iff {t : T} : isTup t = true ↔ ∃ ts, t = .tup ts := by
  constructor
  · intro h; cases t <;> first | exact ⟨_, rfl⟩ | cases h
  · rintro ⟨ts, rfl⟩; rfl
theorem Shp.sums {a b k : Nat} {m : List (List Rat)} (h : Shp a b m) (hw : TW k m) (hb : 1 + b * (k + 1) ≤ 4000) : ∀ r ∈ m, SumOk r ∧ ∀ q ∈ r, Sm q := fun r hr => SumOk.of (hw r hr) (by rw [h.2 r hr]; exact hb)
theorem Shp.colSums {a b k : Nat} {m : List (List Rat)} (h : Shp a b m) (hw : TW k m) (ha : 1 + a * (k + 1) ≤ 4000) : ∀ j < b, SumOk (col j m) ∧ ∀ q ∈ col j m, Sm q := fun j hj => SumOk.of (hw.col h hj) (by rw [col_len, h.1]; exact ha)
theorem mul4 {n : Nat} (h : n ≤ 4) : 1 + n * (900 + 1) ≤ 4000 := by omega
theorem coupling_is {C : Cn} {t r c : Nat} (hio : C.io = false) (ht : IsP 59 tabB (C.call t)) (hr : IsRowSums (C.call r)) (hc : IsColSums (C.call c)) : IsCp (run C 5 (Tx.is_coupling t r c)) := by
  intro a b v hv la lb hw
  have hsz : SZ = 16777216 := rfl
  have hct := ht v hv
  have hF := hv.F
  have c1 : ev C (.not (.call t (.cons (.var 2) .nil))) [some (frs a), some (frs b), some v, none, none] = .ok (.bl (!tabB v)) [some (frs a), some (frs b), some v, none, none] := by
    refine ev_not2 (ev_c1 (ev_v rfl hF) ?_)
    rw [frz_of _ hF]; exact hct
  have bad : ∀ _ : Nat, ev C (.or (.not (.call t (.cons (.var 2) .nil))) (.or (.cmp .ne (.primv .len 2) (.primv .len 0)) (.not (.prim .all (.lc [3] (.nm 3) (.seq (.var 2)) .non (.cmp .eq (.primv .len 3) (.primv .len 1))))))) [some (frs a), some (frs b), some v, none, none] = .ok (.bl true) [some (frs a), some (frs b), some v, none, none] → run C 5 (Tx.is_coupling t r c) [frs a, frs b, v] = ok0 (.bl false) := by
    intro x h
    have s1 := ex_ife_ret (x := .bl false) (u := .bl false) h rfl
    exact run_rt hio (by unfold Tx.is_coupling; exact exs_rt s1)
  by_cases hT : tabB v = true
  · obtain ⟨ts, rfl⟩ : ∃ ts, v = .tup ts := by cases v <;> first | exact ⟨_, rfl⟩ | cases hT
    obtain ⟨m, rfl⟩ := tab_of (tabB_rows hT)
    have hml : (m.map frs).length ≤ SZ := (Vl.tup (k := 58) hv).2.1
    rw [List.length_map] at hml
    have hw := hw m rfl
    rw [hT] at c1
    have hrl : ∀ r' ∈ m, r'.length ≤ SZ := fun r' hr' => by
      have h1 := (Vl.tup (k := 58) hv).1 (frs r') (List.mem_map_of_mem hr')
      have := (Vl.tup (k := 57) h1).2.1
      rwa [List.length_map] at this
    show (∀ m', tab m = tab m' → _) ∧ _
    have e0 : T.tup (m.map frs) = tab m := rfl
    rw [e0] at *
    have c2 : ev C (.cmp .ne (.primv .len 2) (.primv .len 0)) [some (frs a), some (frs b), some (tab m), none, none] = .ok (.bl (!decide (m.length = a.length))) [some (frs a), some (frs b), some (tab m), none, none] := by
      simp [gt, prim_len_frs, prim_len_tab, cmp_ne_nat, boolR]
    have hl3 := lcT (C := C) (s := .seq (.var 2)) (x := .cmp .eq (.primv .len 3) (.primv .len 1)) (i := 3) (m := m) (e := [some (frs a), some (frs b), some (tab m), none, none]) (fun r => .bl (decide (r.length = b.length))) (srs_tab rfl) (by simp) hio rfl hml fun l hl => by
      have e1 : decide (l.length = b.length) = decide ((l.length : Int) = (b.length : Int)) := by rw [decide_eq_decide]; omega
      simp [gt, prim_len_frs, cmpInt, boolR, e1]
    have c3 : ev C (.not (.prim .all (.lc [3] (.nm 3) (.seq (.var 2)) .non (.cmp .eq (.primv .len 3) (.primv .len 1))))) [some (frs a), some (frs b), some (tab m), none, none] = .ok (.bl (!(m.all fun r => decide (r.length = b.length)))) [some (frs a), some (frs b), some (tab m), none, none] := by
      refine ev_not2 ?_
      rw [x_ev_prim, hl3, R.bind_ok, prim_all2]; rfl
    have cc := ev_or2 c1 fun _ => ev_or2 c2 fun _ => c3
    by_cases hs : m.length = a.length ∧ ∀ r' ∈ m, r'.length = b.length
    · have hshp : Shp a.length b.length m := hs
      have hall : (m.all fun r => decide (r.length = b.length)) = true := List.all_eq_true.mpr fun r hr => decide_eq_true (hs.2 r hr)
      rw [decide_eq_true hs.1, hall] at cc
      have s1 := ex_ife_ret (x := .bl false) (u := .bl false) cc rfl
      have s1 : ex C _ [some (frs a), some (frs b), some (tab m), none, none] = .ok .nx [some (frs a), some (frs b), some (tab m), none, none] := s1
      have hfl : m.flatten.length ≤ SZ := by
        have : m.flatten.length ≤ m.length * 4 := by
          exact flatten_len fun r' hr' => by rw [hs.2 r' hr']; exact lb
        rw [hs.1] at this; omega
      have hl2 := lc2A (C := C) (s := .seq (.var 2)) (s2 := .seq (.var 3)) (c2 := .non) (x := .cmp .ge (.ix 4 (.int 0)) (.int 0)) (i := 3) (k := 4) (e := [some (frs a), some (frs b), some (tab m), none, none]) (l := m) frs fr (fun r => r) (fun _ q => [.bl (decide (0 ≤ q))]) (by decide) (by simp) (by simp) hio rfl (srs_tab rfl) (by
          rw [flat2 (fun q : Rat => .bl (decide (0 ≤ q))), List.length_map]; exact hfl) (fun r hr => srs_frs rfl) fun r hr q hq => by
        have e1 : decide (0 ≤ q) = decide (0 ≤ q.num) := by rw [decide_eq_decide]; exact num_nn.symm
        rw [e1]
        simp [has, gt, num_at, fz, isF, cmp, boolR]
      rw [flat2 (fun q : Rat => .bl (decide (0 ≤ q)))] at hl2
      have cn : ev C (.not (.prim .all (.lc2 [3, 4] (.nm 3) (.seq (.var 2)) .non [4] (.nm 4) (.seq (.var 3)) .non (.cmp .ge (.ix 4 (.int 0)) (.int 0))))) [some (frs a), some (frs b), some (tab m), none, none] = .ok (.bl (!(m.flatten.all fun q => decide (0 ≤ q)))) [some (frs a), some (frs b), some (tab m), none, none] := by
        refine ev_not2 ?_
        rw [x_ev_prim, hl2, R.bind_ok, prim_all2]; rfl
      have s2 := ex_ife_ret (x := .bl false) (u := .bl false) cn rfl
      by_cases hn : ∀ r' ∈ m, ∀ q ∈ r', 0 ≤ q
      · have hall2 : (m.flatten.all fun q => decide (0 ≤ q)) = true := List.all_eq_true.mpr fun q hq => by
          obtain ⟨r', hr', hq'⟩ := List.mem_flatten.mp hq
          exact decide_eq_true (hn r' hr' q hq')
        rw [hall2] at s2
        have s2 : ex C _ [some (frs a), some (frs b), some (tab m), none, none] = .ok .nx [some (frs a), some (frs b), some (tab m), none, none] := s2
        refine ⟨fun m' hm' _ _ => ?_, fun h => absurd ⟨m, rfl, hshp, hn⟩ h⟩
        cases tab_inj hm'
        have q1 := hr m hml (hshp.sums hw (mul4 lb))
        have q2 := hc m b.length hml (by omega) (fun r' hr' => by rw [hs.2 r' hr']; exact Nat.le_refl _) (hshp.colSums hw (mul4 la))
        have w1 : ev C (.cmpR .eq (.call r (.cons (.var 2) .nil)) 0) [some (frs a), some (frs b), some (tab m), none, none] = .ok (.bl (decide (rowSums m = a))) [some (frs a), some (frs b), some (tab m), none, none] := by
          rw [x_ev_cmpR, ev_c1 (ev_v (j := 2) (t := tab m) rfl (isF_tab m)) (by rw [frz_tab]; exact q1), R.bind_ok]
          show boolR (cmp .eq (frs (rowSums m)) (frs a)) _ = _
          rw [cmp_frs]; rfl
        have w2 : ev C (.cmpR .eq (.call c (.cons (.var 2) (.cons (.primv .len 1) .nil))) 1) [some (frs a), some (frs b), some (tab m), none, none] = .ok (.bl (decide (rowSums (turned m b.length) = b))) [some (frs a), some (frs b), some (tab m), none, none] := by
          rw [x_ev_cmpR, ev_c2 (a := tab m) (b := .int b.length) (ev_v rfl (isF_tab m)) (by simp [gt, prim_len_frs]) (isF_tab m) rfl q2, R.bind_ok]
          show boolR (cmp .eq (frs (rowSums (turned m b.length))) (frs b)) _ = _
          rw [cmp_frs]; rfl
        refine run_rt hio (e := [some (frs a), some (frs b), some (tab m), none, none]) ?_
        unfold Tx.is_coupling startE
        show exs C _ [some (frs a), some (frs b), some (tab m), none, none] = _
        rw [exs_nx s1, exs_nx s2]
        refine exs_rt ?_
        rw [x_ex_ret, ev_and2 w1 fun _ => w2]; rfl
      · have hall2 : (m.flatten.all fun q => decide (0 ≤ q)) = false := by
          rw [Bool.eq_false_iff]
          intro h
          refine hn fun r' hr' q hq => ?_
          exact of_decide_eq_true (List.all_eq_true.mp h q (List.mem_flatten.mpr ⟨r', hr', hq⟩))
        rw [hall2] at s2
        have s2 : ex C _ [some (frs a), some (frs b), some (tab m), none, none] = .ok (.rt (.bl false)) [some (frs a), some (frs b), some (tab m), none, none] := s2
        refine ⟨fun m' hm' _ h => ?_, fun _ => ?_⟩
        · cases tab_inj hm'
          exact absurd h hn
        · refine run_rt hio (e := [some (frs a), some (frs b), some (tab m), none, none]) ?_
          unfold Tx.is_coupling startE
          show exs C _ [some (frs a), some (frs b), some (tab m), none, none] = _
          rw [exs_nx s1]
          exact exs_rt s2
    · have hcond : (!true || (!decide (m.length = a.length) || !(m.all fun r => decide (r.length = b.length)))) = true := by
        by_cases h1 : m.length = a.length
        · rw [decide_eq_true h1]
          have : (m.all fun r => decide (r.length = b.length)) = false := by
            rw [Bool.eq_false_iff]
            intro h
            exact hs ⟨h1, fun r' hr' => of_decide_eq_true (List.all_eq_true.mp h r' hr')⟩
          rw [this]; rfl
        · rw [decide_eq_false h1]; rfl
      rw [hcond] at cc
      refine ⟨fun m' hm' h _ => ?_, fun _ => bad 0 cc⟩
      cases tab_inj hm'
      exact absurd h hs
  · have hT := Bool.eq_false_iff.mpr hT
    rw [hT] at c1
    have cc := ev_or2 (b := true) (y := .or (.cmp .ne (.primv .len 2) (.primv .len 0)) (.not (.prim .all (.lc [3] (.nm 3) (.seq (.var 2)) .non (.cmp .eq (.primv .len 3) (.primv .len 1)))))) c1 fun h => by cases h
    refine ⟨fun m hm hs _ => ?_, fun _ => bad 0 cc⟩
    rw [hm, tabB_tab hs] at hT
    cases hT
end Iv
set_option Elab.async false
set_option linter.all false
set_option maxRecDepth 100000
set_option exponentiation.threshold 20000
namespace Iv
open PySem
/-! ### couplings, by the law's own -/
def frozenO (x : Option T) : Prop := ∀ t, x = some t → isF t = true
theorem ownO {e : Env} {i : Nat} (h : frozenO (gt e i)) : ownOk e [i] = true := by
  unfold ownOk
  rw [List.all_cons, List.all_nil, Bool.and_true]
  cases q : gt e i with
  | none => rfl
  | some t => exact h t q
theorem nonneg_fr (q : Rat) : nonneg (fr q) = decide (0 ≤ q) := by
  show (match ratOf (fr q) with
    | some q => decide (0 ≤ q.num)
    | none => false) = _
  rw [ratOf_fr]
  show decide (0 ≤ q.num) = _
  rw [decide_eq_decide]; exact num_nn
theorem lis_row {C : Cn} {g : Nat} (hio : C.io = false) (hg : IsFrac (C.call g)) {x0 x1 x2 x4 : Option T} {us : List T} (hu : ∀ u ∈ us, Vl 57 u) (hF : isFs us = true) (hl : us.length ≤ SZ) :
    ex C (.ife (.cmp .ne (.lc [5] (.nm 5) (.seq (.var 3)) (.som (.or (.not (.call g (.cons (.var 5) .nil))) (.cmp .lt (.ix 5 (.int 0)) (.int 0)))) (.var 5)) (.lst .nil)) (.cons (.ret (.bl false)) .nil) .nil) [x0, x1, x2, some (.tup us), x4, none] =
      if us.all nonneg = true then .ok .nx [x0, x1, x2, some (.tup us), x4, none] else .ok (.rt (.bl false)) [x0, x1, x2, some (.tup us), x4, none] := by
  have hlc := lcAc id (C := C) (s := .seq (.var 3)) (c := .or (.not (.call g (.cons (.var 5) .nil))) (.cmp .lt (.ix 5 (.int 0)) (.int 0))) (x := .var 5) (i := 5) (l := us) (e := [x0, x1, x2, some (.tup us), x4, none]) (fun u => !nonneg u) id (srs_T rfl hF) (by simp) hio rfl hl (fun u hm => by
    have hv := hu u hm
    have hF := hv.F
    have hc := hg u (hv.1.mono (by decide))
    have q1 : ev C (.not (.call g (.cons (.var 5) .nil))) [x0, x1, x2, some (.tup us), x4, some u] = .ok (.bl (!(ratOf u).isSome)) [x0, x1, x2, some (.tup us), x4, some u] := by
      refine ev_not2 (ev_c1 (ev_v rfl hF) ?_)
      rw [frz_of _ hF]; exact hc
    show ev C _ [x0, x1, x2, some (.tup us), x4, some u] = _
    cases hr : ratOf u with
    | none =>
      rw [hr] at q1
      have e1 : nonneg u = false := by unfold nonneg; rw [hr]
      show _ = R.ok (T.bl (!nonneg u)) [x0, x1, x2, some (.tup us), x4, some u]
      rw [e1]
      exact ev_or2 (b := true) q1 fun h => by cases h
    | some q =>
      rw [hr] at q1
      have hu := ratOf_some hr
      subst hu
      have e1 : (!nonneg (fr q)) = (!(some q).isSome || decide (q.num < 0)) := by
        rw [nonneg_fr]
        show (!decide (0 ≤ q)) = decide (q.num < 0)
        rw [← decide_not, decide_eq_decide, ← num_nn]; omega
      show _ = R.ok (T.bl (!nonneg (fr q))) [x0, x1, x2, some (.tup us), x4, some (fr q)]
      rw [e1]
      refine ev_or2 q1 fun _ => ?_
      simp [has, gt, num_at, fz, isF, cmp, boolR]) (fun u hm _ => ev_v rfl (hu u hm).F)
  rw [List.map_id] at hlc
  have hnn := ev_ne_nil hlc fun u hm => (hu u (List.mem_filter.mp hm).1).1.mono (by decide)
  have h := ex_ife_ret (x := .bl false) (u := .bl false) hnn rfl
  rw [h]
  have e2 : (us.filter fun u => !nonneg u).isEmpty = us.all nonneg := by
    clear h hnn hlc hu hF hl
    induction us with
    | nil => rfl
    | cons u us ih =>
      rw [List.filter_cons, List.all_cons, ← ih]
      cases nonneg u <;> rfl
  rw [e2]
  cases us.all nonneg <;> rfl
def rowN : T → Bool
  | .tup us => us.all nonneg
  | _ => false
theorem lis_loop {C : Cn} {g : Nat} (hio : C.io = false) (hg : IsFrac (C.call g)) {x0 x1 x2 x4 : Option T} : ∀ (rs : List T) (x3 : Option T), frozenO x3 → (∀ r ∈ rs, isTup r = true ∧ Vl 58 r) →
    (rs.all rowN = true → ∃ x3', frozenO x3' ∧ forLoop (fun x e => (asgTg C (.nm 3) x e).bind fun _ e => exs C (Tx.lisB g) e) rs [x0, x1, x2, x3, x4, none] = .ok .nx [x0, x1, x2, x3', x4, none]) ∧
    (rs.all rowN = false → ∃ e', forLoop (fun x e => (asgTg C (.nm 3) x e).bind fun _ e => exs C (Tx.lisB g) e) rs [x0, x1, x2, x3, x4, none] = .ok (.rt (.bl false)) e')
  | [], x3, hx, _ => ⟨fun _ => ⟨x3, hx, rfl⟩, fun h => by cases h⟩
  | r :: rs, x3, hx, h => by
    obtain ⟨h1, h2⟩ := h r List.mem_cons_self
    obtain ⟨us, rfl⟩ := isTup_iff.mp h1
    obtain ⟨v1, v2, v3⟩ := Vl.tup (k := 57) h2
    have hrow := lis_row hio hg (x0 := x0) (x1 := x1) (x2 := x2) (x4 := x4) v1 v3 v2
    obtain ⟨i1, i2⟩ := lis_loop hio hg (x0 := x0) (x1 := x1) (x2 := x2) (x4 := x4) rs (some (.tup us)) (fun t ht => by cases ht; exact h2.F) fun r hr => h r (List.mem_cons_of_mem _ hr)
    have e0 : rowN (.tup us) = us.all nonneg := rfl
    have ha : asgTg C (.nm 3) (.tup us) [x0, x1, x2, x3, x4, none] = .ok () [x0, x1, x2, some (.tup us), x4, none] := asg_nm hio (by simp)
    rw [List.all_cons, e0]
    cases hq : us.all nonneg with
    | false =>
      rw [hq] at hrow
      have hrow : ex C _ _ = .ok (.rt (.bl false)) _ := hrow
      refine ⟨fun h => by simp at h, fun _ => ⟨[x0, x1, x2, some (.tup us), x4, none], ?_⟩⟩
      rw [forLoop, ha, R.bind_ok, show exs C (Tx.lisB g) _ = _ from exs_rt hrow]; rfl
    | true =>
      rw [hq] at hrow
      have hrow : ex C _ _ = .ok .nx _ := hrow
      have hst : forLoop (fun x e => (asgTg C (.nm 3) x e).bind fun _ e => exs C (Tx.lisB g) e) (.tup us :: rs) [x0, x1, x2, x3, x4, none] = forLoop (fun x e => (asgTg C (.nm 3) x e).bind fun _ e => exs C (Tx.lisB g) e) rs [x0, x1, x2, some (.tup us), x4, none] := by
        refine for_nx ?_
        rw [ha, R.bind_ok]
        show exs C (Tx.lisB g) _ = _
        unfold Tx.lisB
        rw [exs_nx hrow]; rfl
      rw [Bool.true_and, hst]
      exact ⟨i1, i2⟩
theorem filter_ne {n : Nat} {f g : Nat → Rat} : ((List.range n).filter fun k => !decide (f k = g k)).isEmpty = true ↔ ∀ k < n, f k = g k := by
  rw [List.isEmpty_iff, List.filter_eq_nil_iff]
  constructor
  · intro h k hk
    have := h k (List.mem_range.mpr hk)
    simpa using this
  · intro h k hk
    simpa using h k (List.mem_range.mp hk)
theorem list_eq_iff {l a : List Rat} (h : l.length = a.length) : l = a ↔ ∀ k < a.length, l.getD k 0 = a.getD k 0 := by
  constructor
  · rintro rfl k _; rfl
  · intro hk
    refine List.ext_getElem h fun k h1 h2 => ?_
    have := hk k h2
    rwa [List.getD_eq_getElem?_getD, List.getD_eq_getElem?_getD, List.getElem?_eq_getElem h1, List.getElem?_eq_getElem h2] at this
theorem rowSums_at {m : List (List Rat)} {k : Nat} (h : k < m.length) : (rowSums m).getD k 0 = tot (m.getD k []) := by
  unfold rowSums
  rw [List.getD_eq_getElem?_getD, List.getElem?_map, List.getD_eq_getElem?_getD, List.getElem?_eq_getElem h]; rfl
theorem turned_at {m : List (List Rat)} {c k : Nat} (h : k < c) : (turned m c).getD k [] = col k m := by
  unfold turned
  rw [List.getD_eq_getElem?_getD, List.getElem?_map, List.getElem?_range h]; rfl
theorem turned_len (m : List (List Rat)) (c : Nat) : (turned m c).length = c := by simp [turned]
theorem gd_nat {k : Nat} (h : k ≤ 1000) : Gd 59 (.int k) := ⟨rfl, rfl, Nat.zero_le _, by
  show decide ((k : Int).natAbs < 2 ^ 4000) = true
  exact decide_eq_true (by rw [Int.natAbs_natCast]; exact lt_pow _ h (by decide))⟩
theorem lis_is {C : Cn} {g t : Nat} (hio : C.io = false) (hg : IsFrac (C.call g)) (ht : IsSum (C.call t)) : IsCp (run C 6 (Tx.lis g t)) := by
  intro a b v hv la lb hw
  have hsz : SZ = 16777216 := rfl
  have hF := hv.F
  have c1 := ev_not2 (ev_istup (C := C) (j := 2) (e := [some (frs a), some (frs b), some v, none, none, none]) rfl hv.1)
  have bad : ∀ _ : Nat, ev C (.or (.not (.isiv 2 .tuple)) (.or (.cmp .ne (.primv .len 2) (.primv .len 0)) (.cmp .ne (.lc [3] (.nm 3) (.seq (.var 2)) (.som (.or (.not (.isiv 3 .tuple)) (.cmp .ne (.primv .len 3) (.primv .len 1)))) (.var 3)) (.lst .nil)))) [some (frs a), some (frs b), some v, none, none, none] = .ok (.bl true) [some (frs a), some (frs b), some v, none, none, none] → run C 6 (Tx.lis g t) [frs a, frs b, v] = ok0 (.bl false) := by
    intro _ h
    have s1 := ex_ife_ret (x := .bl false) (u := .bl false) h rfl
    exact run_rt hio (by unfold Tx.lis; exact exs_rt s1)
  by_cases hT : isTup v = true
  · obtain ⟨rs, rfl⟩ := isTup_iff.mp hT
    obtain ⟨v1, v2, v3⟩ := Vl.tup (k := 58) hv
    have c2 : ev C (.cmp .ne (.primv .len 2) (.primv .len 0)) [some (frs a), some (frs b), some (.tup rs), none, none, none] = .ok (.bl (!decide (rs.length = a.length))) [some (frs a), some (frs b), some (.tup rs), none, none, none] := by
      have p1 : Iv.prim .len (.tup rs) = some (.int rs.length) := rfl
      simp [gt, prim_len_frs, p1, cmp_ne_nat, boolR]
    have hlc := lcAc id (C := C) (s := .seq (.var 2)) (c := .or (.not (.isiv 3 .tuple)) (.cmp .ne (.primv .len 3) (.primv .len 1))) (x := .var 3) (i := 3) (l := rs) (e := [some (frs a), some (frs b), some (.tup rs), none, none, none]) (fun u => !(isTup u && decide (lenT u = b.length))) id (srs_T rfl v3) (by simp) hio rfl v2 (fun u hm => by
      have hv := v1 u hm
      have q1 := ev_not2 (ev_istup (C := C) (j := 3) (e := [some (frs a), some (frs b), some (.tup rs), some u, none, none]) rfl hv.1)
      rw [Bool.not_and]
      refine ev_or2 q1 fun h => ?_
      have h : isTup u = true := by simpa using h
      obtain ⟨us, rfl⟩ := isTup_iff.mp h
      have p1 : Iv.prim .len (.tup us) = some (.int us.length) := rfl
      show ev C _ [some (frs a), some (frs b), some (.tup rs), some (.tup us), none, none] = R.ok (T.bl (!decide (us.length = b.length))) [some (frs a), some (frs b), some (.tup rs), some (.tup us), none, none]
      simp [gt, prim_len_frs, p1, cmp_ne_nat, boolR]) (fun u hm _ => ev_v rfl (v1 u hm).F)
    rw [List.map_id] at hlc
    have c3 := ev_ne_nil hlc fun u hm => (v1 u (List.mem_filter.mp hm).1).1.mono (by decide)
    have cc := ev_or2 c1 fun _ => ev_or2 c2 fun _ => c3
    by_cases hs : rs.length = a.length ∧ ∀ r' ∈ rs, isTup r' = true ∧ lenT r' = b.length
    · have hfe : (rs.filter fun u => !(isTup u && decide (lenT u = b.length))) = [] := by
        rw [List.filter_eq_nil_iff]
        intro u hu
        obtain ⟨p1, p2⟩ := hs.2 u hu
        rw [p1, p2]; simp
      rw [hfe, decide_eq_true hs.1] at cc
      have s1 := ex_ife_ret (x := .bl false) (u := .bl false) cc rfl
      have s1 : ex C _ [some (frs a), some (frs b), some (.tup rs), none, none, none] = .ok .nx [some (frs a), some (frs b), some (.tup rs), none, none, none] := s1
      obtain ⟨lt, lf⟩ := lis_loop hio hg (x0 := some (frs a)) (x1 := some (frs b)) (x2 := some (.tup rs)) (x4 := none) rs none (fun _ h => by cases h) fun r hr => ⟨(hs.2 r hr).1, v1 r hr⟩
      have hsr : srs C (.seq (.var 2)) [some (frs a), some (frs b), some (.tup rs), none, none, none] = .ok rs [some (frs a), some (frs b), some (.tup rs), none, none, none] := by
        have := srs_T (C := C) (j := 2) (e := [some (frs a), some (frs b), some (.tup rs), none, none, none]) rfl v3
        rwa [List.map_id] at this
      cases hN : rs.all rowN with
      | false =>
        obtain ⟨e', he'⟩ := lf hN
        have hnf : ∀ m, T.tup rs = tab m → ¬ ∀ r ∈ m, ∀ q ∈ r, 0 ≤ q := by
          intro m hm hn
          have hm : rs = m.map frs := by injection hm
          have : rs.all rowN = true := by
            rw [hm, List.all_map, List.all_eq_true]
            intro r hr
            show (r.map fr).all nonneg = true
            rw [List.all_map, List.all_eq_true]
            intro q hq
            show nonneg (fr q) = true
            rw [nonneg_fr]; exact decide_eq_true (hn r hr q hq)
          rw [this] at hN; cases hN
        refine ⟨fun m hm _ hn => absurd hn (hnf m hm), fun _ => ?_⟩
        refine run_rt hio (e := e') ?_
        unfold Tx.lis startE
        show exs C _ [some (frs a), some (frs b), some (.tup rs), none, none, none] = _
        rw [exs_nx s1]
        exact exs_rt (ex_for hsr he')
      | true =>
        obtain ⟨x3, hx3, he'⟩ := lt hN
        have hrow : ∀ u ∈ rs, rowB u = true := by
          intro u hu
          obtain ⟨us, rfl⟩ := isTup_iff.mp (hs.2 u hu).1
          have h1 : us.all nonneg = true := List.all_eq_true.mp hN _ hu
          show us.all frB = true
          rw [List.all_eq_true]
          intro w hw
          have h2 := List.all_eq_true.mp h1 w hw
          unfold nonneg at h2
          unfold frB
          cases hr : ratOf w with
          | none => rw [hr] at h2; cases h2
          | some q => rfl
        obtain ⟨m, rfl⟩ := tab_of hrow
        have hnn : ∀ r ∈ m, ∀ q ∈ r, 0 ≤ q := by
          intro r hr q hq
          have h1 : (r.map fr).all nonneg = true := List.all_eq_true.mp hN (frs r) (List.mem_map_of_mem hr)
          have h2 := List.all_eq_true.mp h1 (fr q) (List.mem_map_of_mem hq)
          rw [nonneg_fr] at h2
          exact of_decide_eq_true h2
        have hshp : Shp a.length b.length m := ⟨by simpa using hs.1, fun r hr => by
          have := (hs.2 (frs r) (List.mem_map_of_mem hr)).2
          rwa [lenT_frs] at this⟩
        refine ⟨fun m' hm' _ _ => ?_, fun h => absurd ⟨m, rfl, hshp, hnn⟩ h⟩
        have e0 : T.tup (m.map frs) = tab m := rfl
        rw [e0] at *
        cases tab_inj hm'
        have hw := hw m rfl
        have sr := hshp.sums hw (mul4 lb)
        have sc := hshp.colSums hw (mul4 la)
        have hml : m.length ≤ SZ := by rw [hshp.1]; omega
        have hO : ∀ x, ownOk [some (frs a), some (frs b), some (tab m), x3, x, none] [3] = true := fun x => ownO (by exact hx3)
        have l3 := lcAc (fun k : Nat => T.int k) (C := C) (s := .rg1 (.primv .len 0)) (c := .cmp .ne (.call t (.cons (.ix 2 (.var 4)) .nil)) (.ix 0 (.var 4))) (x := .var 4) (i := 4) (l := List.range a.length) (e := [some (frs a), some (frs b), some (tab m), x3, none, none]) (e0 := [some (frs a), some (frs b), some (tab m), x3, none, none]) (fun k => !decide (tot (m.getD k []) = a.getD k 0)) (fun k : Nat => T.int k) (srs_rg (by simp [gt, prim_len_frs]) (by omega)) (by simp) hio rfl (by simp; omega) (fun k hk => by
          have hk := List.mem_range.mp hk
          have hkm : k < m.length := by rw [hshp.1]; exact hk
          obtain ⟨q1, q2⟩ := sr _ (getDD_mem hkm)
          have hcall := ht (m.getD k []) (frs (m.getD k [])) (.inr rfl) q1 q2
          show ev C _ [some (frs a), some (frs b), some (tab m), x3, some (.int k), none] = R.ok _ [some (frs a), some (frs b), some (tab m), x3, some (.int k), none]
          rw [x_ev_cmp, ev_c1 (ev_ixT (m := m) rfl (ev_vi rfl) hkm) (by rw [frz_frs]; exact hcall), R.bind_ok, ev_ixQ (l := a) rfl (ev_vi rfl) hk, R.bind_ok, cmp_ne_fr]; rfl) (fun k _ _ => ev_vi rfl)
        have d3 := ev_ne_nil l3 fun u hu => by
          obtain ⟨k, hk, rfl⟩ := List.mem_map.mp hu
          have := List.mem_range.mp (List.mem_filter.mp hk).1
          exact gd_nat (by omega)
        have s3 := ex_ife_ret (x := .bl false) (u := .bl false) d3 rfl
        have e3 : (((List.range a.length).filter fun k => !decide (tot (m.getD k []) = a.getD k 0)).map fun k : Nat => T.int k).isEmpty = decide (rowSums m = a) := by
          rw [Bool.eq_iff_iff, decide_eq_true_eq, List.isEmpty_map, filter_ne, list_eq_iff (by unfold rowSums; rw [List.length_map, hshp.1])]
          refine forall_congr' fun k => forall_congr' fun hk => ?_
          rw [rowSums_at (by rw [hshp.1]; exact hk)]
        rw [e3] at s3
        have l4 := lcAc (fun k : Nat => T.int k) (C := C) (s := .rg1 (.primv .len 1)) (c := .cmp .ne (.call t (.cons (.lc [3] (.nm 3) (.seq (.var 2)) .non (.ix 3 (.var 4))) .nil)) (.ix 1 (.var 4))) (x := .var 4) (i := 4) (l := List.range b.length) (e := [some (frs a), some (frs b), some (tab m), x3, none, none]) (e0 := [some (frs a), some (frs b), some (tab m), x3, none, none]) (fun k => !decide (tot (col k m) = b.getD k 0)) (fun k : Nat => T.int k) (srs_rg (by simp [gt, prim_len_frs]) (by omega)) (by simp) hio rfl (by simp; omega) (fun k hk => by
          have hk := List.mem_range.mp hk
          obtain ⟨q1, q2⟩ := sc k hk
          have hcall := ht (col k m) (.lst false ((col k m).map fr)) (.inl rfl) q1 q2
          have hcl := lcT (C := C) (s := .seq (.var 2)) (x := .ix 3 (.var 4)) (i := 3) (m := m) (e := [some (frs a), some (frs b), some (tab m), x3, some (.int k), none]) (fun r => fr (r.getD k 0)) (srs_tab rfl) (by simp) hio (hO _) hml fun r hr => by
            show ev C _ [some (frs a), some (frs b), some (tab m), some (frs r), some (.int k), none] = R.ok _ [some (frs a), some (frs b), some (tab m), some (frs r), some (.int k), none]
            exact ev_ixQ rfl (ev_vi rfl) (by rw [hshp.2 r hr]; exact hk)
          have e5 : m.map (fun r => fr (r.getD k 0)) = (col k m).map fr := by unfold col; rw [List.map_map]; rfl
          rw [e5] at hcl
          show ev C _ [some (frs a), some (frs b), some (tab m), x3, some (.int k), none] = R.ok _ [some (frs a), some (frs b), some (tab m), x3, some (.int k), none]
          rw [x_ev_cmp, ev_c1 hcl (by
            show C.call t [T.lst false (frzs ((col k m).map fr))] = _
            rw [frzs_frl]; exact hcall), R.bind_ok, ev_ixQ (l := b) rfl (ev_vi rfl) hk, R.bind_ok, cmp_ne_fr]; rfl) (fun k _ _ => ev_vi rfl)
        have d4 := ev_eq_nil l4 fun u hu => by
          obtain ⟨k, hk, rfl⟩ := List.mem_map.mp hu
          have := List.mem_range.mp (List.mem_filter.mp hk).1
          exact gd_nat (by omega)
        have e4 : (((List.range b.length).filter fun k => !decide (tot (col k m) = b.getD k 0)).map fun k : Nat => T.int k).isEmpty = decide (rowSums (turned m b.length) = b) := by
          rw [Bool.eq_iff_iff, decide_eq_true_eq, List.isEmpty_map, filter_ne, list_eq_iff (by unfold rowSums; rw [List.length_map, turned_len])]
          refine forall_congr' fun k => forall_congr' fun hk => ?_
          rw [rowSums_at (by rw [turned_len]; exact hk), turned_at hk]
        rw [e4] at d4
        have s1' : ex C (.ife (.or (.not (.isiv 2 .tuple)) (.or (.cmp .ne (.primv .len 2) (.primv .len 0)) (.cmp .ne (.lc [3] (.nm 3) (.seq (.var 2)) (.som (.or (.not (.isiv 3 .tuple)) (.cmp .ne (.primv .len 3) (.primv .len 1)))) (.var 3)) (.lst .nil)))) (.cons (.ret (.bl false)) .nil) .nil) [some (frs a), some (frs b), some (tab m), none, none, none] = .ok .nx [some (frs a), some (frs b), some (tab m), none, none, none] := s1
        have s2' : ex C (.for (.nm 3) (.seq (.var 2)) (Tx.lisB g)) [some (frs a), some (frs b), some (tab m), none, none, none] = .ok .nx [some (frs a), some (frs b), some (tab m), x3, none, none] := ex_for hsr he'
        have goal : ∀ z e', exs C (Tx.lis g t) [some (frs a), some (frs b), some (tab m), none, none, none] = .ok (.rt (.bl z)) e' → run C 6 (Tx.lis g t) [frs a, frs b, tab m] = ok0 (.bl z) := fun z e' h => run_rt hio h
        unfold cpV
        by_cases hq : rowSums m = a
        · rw [decide_eq_true hq] at s3 ⊢
          have s3 : ex C _ [some (frs a), some (frs b), some (tab m), x3, none, none] = .ok .nx [some (frs a), some (frs b), some (tab m), x3, none, none] := s3
          refine goal _ [some (frs a), some (frs b), some (tab m), x3, none, none] ?_
          unfold Tx.lis
          rw [exs_nx s1', exs_nx s2', exs_nx s3]
          refine exs_rt ?_
          rw [x_ex_ret, d4]; rfl
        · rw [decide_eq_false hq] at s3 ⊢
          have s3 : ex C _ [some (frs a), some (frs b), some (tab m), x3, none, none] = .ok (.rt (.bl false)) [some (frs a), some (frs b), some (tab m), x3, none, none] := s3
          refine goal _ [some (frs a), some (frs b), some (tab m), x3, none, none] ?_
          unfold Tx.lis
          rw [exs_nx s1', exs_nx s2']
          exact exs_rt s3
    · have hcond : (!isTup (.tup rs) || (!decide (rs.length = a.length) || !(rs.filter fun u => !(isTup u && decide (lenT u = b.length))).isEmpty)) = true := by
        show (!decide (rs.length = a.length) || !(rs.filter fun u => !(isTup u && decide (lenT u = b.length))).isEmpty) = true
        by_cases h1 : rs.length = a.length
        · rw [decide_eq_true h1]
          have : (rs.filter fun u => !(isTup u && decide (lenT u = b.length))).isEmpty = false := by
            rw [Bool.eq_false_iff]
            intro h
            rw [List.isEmpty_iff, List.filter_eq_nil_iff] at h
            refine hs ⟨h1, fun r' hr' => ?_⟩
            have := h r' hr'
            simpa using this
          rw [this]; rfl
        · rw [decide_eq_false h1]; rfl
      rw [hcond] at cc
      have hnf : ∀ m, T.tup rs = tab m → ¬ Shp a.length b.length m := by
        intro m hm h
        have hm : rs = m.map frs := by injection hm
        refine hs ⟨by rw [hm, List.length_map]; exact h.1, fun r' hr' => ?_⟩
        rw [hm] at hr'
        obtain ⟨r, hr, rfl⟩ := List.mem_map.mp hr'
        exact ⟨rfl, by rw [lenT_frs]; exact h.2 r hr⟩
      exact ⟨fun m hm h _ => absurd h (hnf m hm), fun _ => bad 0 cc⟩
  · have hT := Bool.eq_false_iff.mpr hT
    rw [hT] at c1
    have cc := ev_or2 (b := true) (y := .or (.cmp .ne (.primv .len 2) (.primv .len 0)) (.cmp .ne (.lc [3] (.nm 3) (.seq (.var 2)) (.som (.or (.not (.isiv 3 .tuple)) (.cmp .ne (.primv .len 3) (.primv .len 1)))) (.var 3)) (.lst .nil))) c1 fun h => by cases h
    refine ⟨fun m hm hs _ => ?_, fun _ => bad 0 cc⟩
    rw [hm] at hT
    cases hT
end Iv
set_option Elab.async false
set_option linter.all false
set_option maxRecDepth 100000
set_option exponentiation.threshold 20000
namespace Tx
open Iv
def places_used : Ss :=
    (.cons (.ret (.lc2 [1, 2] (.nm 1) (.rg1 (.primv .len 0)) .non [2] (.nm 2) (.rg1 (.prim .len (.ix 0 (.var 1)))) (.som (.cmp .gt (.idx (.idx (.ix 0 (.var 1)) (.var 2)) (.int 0)) (.int 0))) (.tup (.cons (.var 1) (.cons (.var 2) .nil)))))
    .nil)
def check_kernel (t c : Nat) : Ss :=
    (.cons (.exp (.call t (.cons (.var 0) .nil)))
    (.cons (.for (.nm 1) (.rg1 (.primv .len 0)) (.cons (.ife (.not (.call c (.cons (.ix 0 (.var 1)) .nil))) (.cons .never
    .nil) .nil)
    .nil))
    .nil))
def bent (n : Nat) : Ss :=
    (.cons (.par [4, 5] (.cons (.cio n 0 (.cons (.primv .len 1) .nil)) (.cons (.cio n 0 (.cons (.prim .len (.ix 1 (.int 0))) .nil)) .nil)))
    (.cons (.asg (.nm 2) (.idx (.lst (.cons (.tup (.cons (.int 0) (.cons (.int 1) .nil))) (.cons (.tup (.cons (.int 1) (.cons (.int 2) .nil))) (.cons (.tup (.cons (.neg (.int 1)) (.cons (.int 2) .nil))) (.cons (.tup (.cons (.int 2) (.cons (.int 4) .nil))) (.cons .non (.cons (.tup (.cons (.bl true) (.cons (.int 1) .nil))) (.cons (.int 1) (.cons (.tup (.cons (.int 1) (.cons (.int 0) .nil))) .nil))))))))) (.cio n 0 (.cons (.int 8) .nil))))
    (.cons (.asg (.nm 3) (.bin .add (.bin .add (.sl (.ix 1 (.var 4)) .non (.som (.var 5))) (.tup (.cons (.var 2) .nil))) (.sl (.ix 1 (.var 4)) (.som (.bin .add (.var 5) (.int 1))) .non)))
    (.cons (.ret (.idx (.lst (.cons (.bin .add (.bin .add (.slv 1 .non (.som (.var 4))) (.tup (.cons (.var 3) .nil))) (.slv 1 (.som (.bin .add (.var 4) (.int 1))) .non)) (.cons (.slv 1 (.som (.int 1)) .non) (.cons (.revv 1) (.cons (.primv .list 1) (.cons .non (.cons (.bin .add (.tup (.cons (.prim .list (.ix 1 (.int 0))) .nil)) (.slv 1 (.som (.int 1)) .non)) (.cons (.bin .add (.var 1) (.slv 1 .non (.som (.int 1)))) .nil)))))))) (.cio n 0 (.cons (.int 7) .nil))))
    .nil))))
end Tx
namespace Iv
open PySem
/-! ### values that may be asked about -/
theorem ioks_of : ∀ {us : List T}, (∀ u ∈ us, iok u = true) → ioks us = true
  | [], _ => rfl
  | u :: us, h => by
    unfold ioks
    rw [h u List.mem_cons_self, ioks_of fun v hv => h v (List.mem_cons_of_mem _ hv)]; rfl
theorem szss_of : ∀ {us : List T}, (∀ u ∈ us, szs u = true) → szss us = true
  | [], _ => rfl
  | u :: us, h => by
    unfold szss
    rw [h u List.mem_cons_self, szss_of fun v hv => h v (List.mem_cons_of_mem _ hv)]; rfl
theorem Vl_tup {k : Nat} {ts : List T} (h : ∀ t ∈ ts, Vl k t) (hl : ts.length ≤ 1000) : Vl (k + 1) (.tup ts) := by
  refine ⟨⟨?_, ?_, ?_, ?_⟩, ?_⟩
  · unfold isF; exact isFs_mem.mpr fun t ht => (h t ht).F
  · unfold sok; exact soks_of fun t ht => (h t ht).1.2.1
  · unfold dep; exact Nat.succ_le_succ (deps_of fun t ht => (h t ht).1.2.2.1)
  · unfold iok; exact ioks_of fun t ht => (h t ht).1.2.2.2
  · unfold szs; rw [szss_of fun t ht => (h t ht).2, decide_eq_true hl]; rfl
theorem Vl_lst {k : Nat} {ts : List T} (h : ∀ t ∈ ts, Vl k t) (hl : ts.length ≤ 1000) : Vl (k + 1) (.lst false ts) := by
  refine ⟨⟨?_, ?_, ?_, ?_⟩, ?_⟩
  · unfold isF; rw [isFs_mem.mpr fun t ht => (h t ht).F]; rfl
  · unfold sok; exact soks_of fun t ht => (h t ht).1.2.1
  · unfold dep; exact Nat.succ_le_succ (deps_of fun t ht => (h t ht).1.2.2.1)
  · unfold iok; exact ioks_of fun t ht => (h t ht).1.2.2.2
  · unfold szs; rw [szss_of fun t ht => (h t ht).2, decide_eq_true hl]; rfl
theorem Vl_fr {q : Rat} (h : Sm q) : Vl 1 (fr q) := ⟨Gd_fr h (Nat.le_refl _), rfl⟩
theorem Vl_frs {l : List Rat} (h : ∀ q ∈ l, Sm q) (hl : l.length ≤ 1000) : Vl 2 (frs l) := Vl_tup (fun t ht => by
  obtain ⟨q, hq, rfl⟩ := List.mem_map.mp ht
  exact Vl_fr (h q hq)) (by rw [List.length_map]; exact hl)
theorem Vl_tab {m : List (List Rat)} (h : ∀ r ∈ m, (∀ q ∈ r, Sm q) ∧ r.length ≤ 1000) (hl : m.length ≤ 1000) : Vl 3 (tab m) := Vl_tup (fun t ht => by
  obtain ⟨r, hr, rfl⟩ := List.mem_map.mp ht
  exact Vl_frs (h r hr).1 (h r hr).2) (by rw [List.length_map]; exact hl)
theorem Vl_non {k : Nat} : Vl k .non := ⟨⟨rfl, rfl, Nat.zero_le _, rfl⟩, rfl⟩
theorem Vl_bl {k : Nat} {b : Bool} : Vl k (.bl b) := ⟨⟨rfl, rfl, Nat.zero_le _, rfl⟩, rfl⟩
theorem Vl_int {k : Nat} {i : Int} (h : i.natAbs < 2 ^ 4000) : Vl k (.int i) := ⟨⟨rfl, rfl, Nat.zero_le _, decide_eq_true h⟩, rfl⟩
theorem Vl_small {k : Nat} {i : Int} (h : i.natAbs < 1000) : Vl k (.int i) := Vl_int (lt_pow _ (by omega) (by decide))
/-! ### bent tables -/
def QE (u : T) : Prop := Vl 1 u ∧ ∀ q, u = fr q → Wt 900 q
def RE (r : T) : Prop := Vl 2 r ∧ ∀ l, r = frs l → ∀ q ∈ l, Wt 900 q
def GE (t : T) : Prop := Vl 59 t ∧ ∀ m, t = tab m → TW 900 m
theorem RE.tup {us : List T} (h : ∀ u ∈ us, QE u) (hl : us.length ≤ 1000) : RE (.tup us) := by
  refine ⟨Vl_tup (fun u hu => (h u hu).1) hl, fun l e q hq => ?_⟩
  have e : us = l.map fr := by injection e
  exact (h (fr q) (by rw [e]; exact List.mem_map_of_mem hq)).2 q rfl
theorem RE.lst {us : List T} (h : ∀ u ∈ us, QE u) (hl : us.length ≤ 1000) : RE (.lst false us) := ⟨Vl_lst (fun u hu => (h u hu).1) hl, fun l e => by cases e⟩
theorem GE.tup {us : List T} (h : ∀ u ∈ us, RE u) (hl : us.length ≤ 1000) : GE (.tup us) := by
  refine ⟨(Vl_tup (fun u hu => (h u hu).1) hl).mono (by decide), fun m e r hr => ?_⟩
  have e : us = m.map frs := by injection e
  exact (h (frs r) (by rw [e]; exact List.mem_map_of_mem hr)).2 r rfl
theorem GE.lst {us : List T} (h : ∀ u ∈ us, RE u) (hl : us.length ≤ 1000) : GE (.lst false us) := ⟨(Vl_lst (fun u hu => (h u hu).1) hl).mono (by decide), fun l e => by cases e⟩
theorem GE.non : GE .non := ⟨Vl_non, fun m e => by cases e⟩
theorem cut_mem {ts : List T} {lo hi : Option Int} : ∀ t ∈ cutT ts lo hi, t ∈ ts := fun t h => List.mem_of_mem_drop (List.mem_of_mem_take h)
theorem cut_len {ts : List T} {lo hi : Option Int} : (cutT ts lo hi).length ≤ ts.length := by
  unfold cutT
  rw [List.length_take, List.length_drop]; omega
theorem slice_tup {ts : List T} {lo hi : Option Int} (h : isFs ts = true) : slice (.tup ts) lo hi = some (.tup (cutT ts lo hi)) := by
  show (if _ then _ else _) = _
  rw [if_pos h]
theorem add_tup {a b : List T} (h : a.length + b.length ≤ SZ) : bin .add (.tup a) (.tup b) = some (.tup (a ++ b)) := by
  show (if _ then _ else _) = _
  rw [if_pos h]
theorem at_lst {o : Bool} {ts : List T} {k : Nat} (h : k < ts.length) : at_ (.lst o ts) (.int k) = some ts[k] := by
  show L2.atI ts (k : Int) = _
  exact L2.atI_nat (by rw [List.getElem?_eq_getElem h])
/-- one of many, by a drawn number -/
theorem ev_pick {C : Cn} {n : Nat} (hn : IsNext (C.call n)) {e : Env} {tp : T} {as : Es} {k : Nat} {ts : List T} (h : gt e 0 = some tp) (ht : Tape tp) (ha : evs C as e = .ok ts e) (hF : isFs (frzs ts) = true) (hk : ts.length = k) (h0 : 0 < k) (h1 : k ≤ 1000) :
    ∃ (u tp' : T), u ∈ frzs ts ∧ Tape tp' ∧ ev C (.idx (.lst as) (.cio n 0 (.cons (.int k) .nil))) e = .ok u (e.set 0 (some tp')) := by
  have hfl : (frzs ts).length = k := by
    have : ∀ l : List T, (frzs l).length = l.length := by
      intro l
      induction l with
      | nil => rfl
      | cons t l ih => rw [frzs, List.length_cons, List.length_cons, ih]
    rw [this, hk]
  obtain ⟨r, tp', q1, q2, q3⟩ := ev_next hn (a := .int k) (k := k) h ht h0 h1 rfl
  have hr : r < (frzs ts).length := by rw [hfl]; exact q1
  refine ⟨(frzs ts)[r], tp', List.getElem_mem hr, q2, ?_⟩
  rw [x_ev_idx, x_ev_lst, ha, R.bind_ok, R.bind_ok, q3, R.bind_ok]
  simp only [at_lst hr]
  rw [fz, if_pos (isFs_mem.mp hF _ (List.getElem_mem hr))]
def IsBent (f : List T → Cr) : Prop := ∀ tp, Tape tp → ∀ (x y : Nat) (m : List (List Rat)), Shp x y m → 0 < x → 0 < y → x ≤ 4 → y ≤ 4 → TW 900 m → ∃ t tp', Tape tp' ∧ GE t ∧ f [tp, tab m] = .ok t tp'
theorem QE_fr {q : Rat} (h : Wt 900 q) : QE (fr q) := ⟨Vl_fr (h.mono (by decide)), fun p e => by rw [← fr_inj e]; exact h⟩
def NEW : List T := [.tup [.int 0, .int 1], .tup [.int 1, .int 2], .tup [.int (-1), .int 2], .tup [.int 2, .int 4], .non, .tup [.bl true, .int 1], .int 1, .tup [.int 1, .int 0]]
theorem QE_pair {n d : Int} (hn : n.natAbs < 1000) (hd : d.natAbs < 1000) : QE (.tup [.int n, .int d]) := by
  refine ⟨Vl_tup (fun u hu => ?_) (by simp), fun q e => ?_⟩
  · simp only [List.mem_cons, List.not_mem_nil, or_false] at hu
    rcases hu with rfl | rfl
    · exact Vl_small hn
    · exact Vl_small hd
  · unfold fr at e
    injection e with e
    injection e with e1 e2
    injection e1 with e1
    injection e2 with e2 _
    injection e2 with e2
    exact ⟨by rw [← e1]; exact lt_pow _ (by omega) (by decide), lt_pow _ (by omega) (by decide)⟩
theorem NEW_ok : ∀ u ∈ NEW, QE u := by
  intro u hu
  simp only [NEW, List.mem_cons, List.not_mem_nil, or_false] at hu
  rcases hu with rfl | rfl | rfl | rfl | rfl | rfl | rfl | rfl
  · exact QE_pair (by decide) (by decide)
  · exact QE_pair (by decide) (by decide)
  · exact QE_pair (by decide) (by decide)
  · exact QE_pair (by decide) (by decide)
  · exact ⟨Vl_non, fun q e => by cases e⟩
  · refine ⟨Vl_tup (fun u hu => ?_) (by simp), fun q e => ?_⟩
    · simp only [List.mem_cons, List.not_mem_nil, or_false] at hu
      rcases hu with rfl | rfl
      · exact Vl_bl
      · exact Vl_small (by decide)
    · unfold fr at e
      injection e with e
      injection e with e1 e2
      cases e1
  · exact ⟨Vl_small (by decide), fun q e => by cases e⟩
  · exact QE_pair (by decide) (by decide)
theorem frzs_app (a b : List T) : frzs (a ++ b) = frzs a ++ frzs b := by
  induction a with
  | nil => rfl
  | cons t a ih => rw [List.cons_append, frzs, ih, frzs]; rfl
theorem bent_is {C : Cn} {n : Nat} (hio : C.io = true) (hn : IsNext (C.call n)) : IsBent (run C 6 (Tx.bent n)) := by
  intro tp ht x y m hs x0 y0 hx hy hw
  have hsz : SZ = 16777216 := rfl
  have hrow : ∀ r ∈ m, ∀ u ∈ r.map fr, QE u := fun r hr u hu => by
    obtain ⟨q, hq, rfl⟩ := List.mem_map.mp hu
    exact QE_fr (hw r hr q hq)
  have hRE : ∀ r ∈ m.map frs, RE r := fun r hr => by
    obtain ⟨l, hl, rfl⟩ := List.mem_map.mp hr
    exact RE.tup (hrow l hl) (by rw [List.length_map, hs.2 l hl]; omega)
  have h0 : 0 < m.length := by rw [hs.1]; exact x0
  -- the place
  obtain ⟨i, tp1, hi, t1, e1⟩ := ev_next hn (e := [some tp, some (tab m), none, none, none, none]) (a := .primv .len 1) (k := x) rfl ht x0 (by omega) (by simp [gt, prim_len_tab, hs.1])
  obtain ⟨j, tp2, hj, t2, e2⟩ := ev_next hn (e := [some tp1, some (tab m), none, none, none, none]) (a := .prim .len (.ix 1 (.int 0))) (k := y) rfl t1 y0 (by omega) (by
    rw [x_ev_prim, ev_ixT (m := m) (k := 0) rfl rfl h0, R.bind_ok, prim_len_frs, hs.row x0]; rfl)
  have s1 : ex C (.par [4, 5] (.cons (.cio n 0 (.cons (.primv .len 1) .nil)) (.cons (.cio n 0 (.cons (.prim .len (.ix 1 (.int 0))) .nil)) .nil))) [some tp, some (tab m), none, none, none, none] = .ok .nx [some tp2, some (tab m), none, none, some (.int i), some (.int j)] := by
    rw [x_ex_par, x_evs_cons, e1, R.bind_ok]
    show (((evs C (.cons (.cio n 0 (.cons (.prim .len (.ix 1 (.int 0))) .nil)) .nil) [some tp1, some (tab m), none, none, none, none]).bind _).bind _) = _
    rw [x_evs_cons, e2, R.bind_ok]
    simp [parS, setNm, hio]
  -- the new one
  obtain ⟨u, tp3, hu, t3, e3⟩ := ev_pick hn (e := [some tp2, some (tab m), none, none, some (.int i), some (.int j)]) (as := (.cons (.tup (.cons (.int 0) (.cons (.int 1) .nil))) (.cons (.tup (.cons (.int 1) (.cons (.int 2) .nil))) (.cons (.tup (.cons (.neg (.int 1)) (.cons (.int 2) .nil))) (.cons (.tup (.cons (.int 2) (.cons (.int 4) .nil))) (.cons .non (.cons (.tup (.cons (.bl true) (.cons (.int 1) .nil))) (.cons (.int 1) (.cons (.tup (.cons (.int 1) (.cons (.int 0) .nil))) .nil)))))))))
    (k := 8) (ts := NEW) rfl t2 rfl rfl rfl (by decide) (by decide)
  have hu : u ∈ NEW := hu
  have huE := NEW_ok u hu
  have huF := huE.1.F
  have s2 : ex C (.asg (.nm 2) (.idx (.lst (.cons (.tup (.cons (.int 0) (.cons (.int 1) .nil))) (.cons (.tup (.cons (.int 1) (.cons (.int 2) .nil))) (.cons (.tup (.cons (.neg (.int 1)) (.cons (.int 2) .nil))) (.cons (.tup (.cons (.int 2) (.cons (.int 4) .nil))) (.cons .non (.cons (.tup (.cons (.bl true) (.cons (.int 1) .nil))) (.cons (.int 1) (.cons (.tup (.cons (.int 1) (.cons (.int 0) .nil))) .nil))))))))) (.cio n 0 (.cons (.int 8) .nil)))) [some tp2, some (tab m), none, none, some (.int i), some (.int j)] = .ok .nx [some tp3, some (tab m), some u, none, some (.int i), some (.int j)] := by
    have e3 : ev C (.idx (.lst _) (.cio n 0 (.cons (.int 8) .nil))) [some tp2, some (tab m), none, none, some (.int i), some (.int j)] = _ := e3
    rw [x_ex_asg, e3, R.bind_ok]
    simp [setNm, hio]
  -- the row
  have him : i < m.length := by rw [hs.1]; exact hi
  have hri : m.getD i [] ∈ m := getDD_mem him
  generalize hri' : m.getD i [] = ri at *
  have hril : ri.length = y := hs.2 ri hri
  obtain ⟨us, hus⟩ : ∃ us, us = cutT (ri.map fr) none (some j) ++ [u] ++ cutT (ri.map fr) (some ((j : Int) + 1)) none := ⟨_, rfl⟩
  have l1 : (cutT (ri.map fr) none (some (j : Int))).length ≤ 4 := Nat.le_trans cut_len (by rw [List.length_map, hril]; exact hy)
  have l2 : (cutT (ri.map fr) (some ((j : Int) + 1)) none).length ≤ 4 := Nat.le_trans cut_len (by rw [List.length_map, hril]; exact hy)
  have s3 : ex C (.asg (.nm 3) (.bin .add (.bin .add (.sl (.ix 1 (.var 4)) .non (.som (.var 5))) (.tup (.cons (.var 2) .nil))) (.sl (.ix 1 (.var 4)) (.som (.bin .add (.var 5) (.int 1))) .non))) [some tp3, some (tab m), some u, none, some (.int i), some (.int j)] = .ok .nx [some tp3, some (tab m), some u, some (.tup us), some (.int i), some (.int j)] := by
    have k1 : ev C (.ix 1 (.var 4)) [some tp3, some (tab m), some u, none, some (.int i), some (.int j)] = .ok (frs ri) [some tp3, some (tab m), some u, none, some (.int i), some (.int j)] := by
      rw [← hri']; exact ev_ixT rfl (ev_vi rfl) him
    have k2 : slice (frs ri) none (some (j : Int)) = some (.tup (cutT (ri.map fr) none (some j))) := slice_tup (isFs_frs ri)
    have k3 : slice (frs ri) (some ((j : Int) + 1)) none = some (.tup (cutT (ri.map fr) (some ((j : Int) + 1)) none)) := slice_tup (isFs_frs ri)
    have k4 : bin .add (.tup (cutT (ri.map fr) none (some (j : Int)))) (.tup [u]) = some (.tup (cutT (ri.map fr) none (some (j : Int)) ++ [u])) := add_tup (by simp; omega)
    have k5 : bin .add (.tup (cutT (ri.map fr) none (some (j : Int)) ++ [u])) (.tup (cutT (ri.map fr) (some ((j : Int) + 1)) none)) = some (.tup us) := by
      rw [hus]; exact add_tup (by rw [List.length_append, List.length_singleton]; omega)
    generalize cutT (ri.map fr) none (some (j : Int)) = ca at *
    generalize cutT (ri.map fr) (some ((j : Int) + 1)) none = cb at *
    have r2 : readV [some tp3, some (tab m), some u, none, some (.int i), some (.int j)] 2 = .ok u [some tp3, some (tab m), some u, none, some (.int i), some (.int j)] := rd_F rfl huF
    have r5 : readV [some tp3, some (tab m), some u, none, some (.int i), some (.int j)] 5 = .ok (.int j) [some tp3, some (tab m), some u, none, some (.int i), some (.int j)] := rd_F rfl rfl
    rw [x_ex_asg, x_ev_bin, x_ev_bin, x_ev_sl, k1]
    simp only [R.bind_ok, x_evo_non, x_evo_som, x_ev_var, r5, k2, R.of_some, x_ev_tup, x_evs_cons, r2, x_evs_nil, k4, x_ev_sl, k1, x_ev_bin, x_ev_int, bin_add_i, k3, k5]
    simp [setNm, hio]
  have husE : ∀ v ∈ us, QE v := by
    intro v hv
    rw [hus] at hv
    rcases List.mem_append.mp hv with hv | hv
    · rcases List.mem_append.mp hv with hv | hv
      · exact hrow ri hri v (cut_mem v hv)
      · rw [List.mem_singleton.mp hv]; exact huE
    · exact hrow ri hri v (cut_mem v hv)
  have husl : us.length ≤ 10 := by rw [hus, List.length_append, List.length_append, List.length_singleton]; omega
  have hrE : RE (.tup us) := RE.tup husE (by omega)
  have hrF : isF (.tup us) = true := hrE.1.F
  -- the table
  obtain ⟨rs, hrs⟩ : ∃ rs, rs = m.map frs := ⟨_, rfl⟩
  rw [← hrs] at hRE
  have hrsl : rs.length ≤ 4 := by rw [hrs, List.length_map, hs.1]; exact hx
  have hrsF : isFs rs = true := by rw [hrs]; exact isFs_tab m
  have ht0 : tab m = .tup rs := by rw [hrs]; rfl
  have hr0 : m.getD 0 [] ∈ m := getDD_mem h0
  have hix0 : ev C (.ix 1 (.int 0)) [some tp3, some (tab m), some u, some (.tup us), some (.int i), some (.int j)] = .ok (frs (m.getD 0 [])) [some tp3, some (tab m), some u, some (.tup us), some (.int i), some (.int j)] := ev_ixT (k := 0) rfl rfl h0
  generalize m.getD 0 [] = r0 at *
  have hr0l : r0.length ≤ 4 := by rw [hs.2 r0 hr0]; exact hy
  rw [ht0] at s1 s2 s3 hix0
  have c1 : ∀ lo hi, (cutT rs lo hi).length ≤ 4 := fun lo hi => Nat.le_trans cut_len hrsl
  have cm : ∀ lo hi, ∀ v ∈ cutT rs lo hi, RE v := fun lo hi v hv => hRE v (cut_mem v hv)
  have cF : ∀ lo hi, isFs (cutT rs lo hi) = true := fun lo hi => isFs_mem.mpr fun v hv => (cm lo hi v hv).1.F
  obtain ⟨ca, hca⟩ : ∃ ca, ca = cutT rs none (some (i : Int)) := ⟨_, rfl⟩
  obtain ⟨cb, hcb⟩ : ∃ cb, cb = cutT rs (some ((i : Int) + 1)) none := ⟨_, rfl⟩
  obtain ⟨cc, hcc⟩ : ∃ cc, cc = cutT rs (some 1) none := ⟨_, rfl⟩
  obtain ⟨cd, hcd⟩ : ∃ cd, cd = cutT rs none (some 1) := ⟨_, rfl⟩
  have la := c1 none (some (i : Int))
  have lb := c1 (some ((i : Int) + 1)) none
  have lc := c1 (some 1) none
  have ld := c1 none (some 1)
  have ma := cm none (some (i : Int))
  have mb := cm (some ((i : Int) + 1)) none
  have mc := cm (some 1) none
  have md := cm none (some 1)
  have fa := cF none (some (i : Int))
  have fb := cF (some ((i : Int) + 1)) none
  have fc := cF (some 1) none
  have fd := cF none (some 1)
  have sa : slice (.tup rs) none (some (i : Int)) = some (.tup ca) := by rw [hca]; exact slice_tup hrsF
  have sb : slice (.tup rs) (some ((i : Int) + 1)) none = some (.tup cb) := by rw [hcb]; exact slice_tup hrsF
  have sc : slice (.tup rs) (some 1) none = some (.tup cc) := by rw [hcc]; exact slice_tup hrsF
  have sd : slice (.tup rs) none (some 1) = some (.tup cd) := by rw [hcd]; exact slice_tup hrsF
  rw [← hca] at la ma fa
  rw [← hcb] at lb mb fb
  rw [← hcc] at lc mc fc
  rw [← hcd] at ld md fd
  have hev : evs C (.cons (.bin .add (.bin .add (.slv 1 .non (.som (.var 4))) (.tup (.cons (.var 3) .nil))) (.slv 1 (.som (.bin .add (.var 4) (.int 1))) .non)) (.cons (.slv 1 (.som (.int 1)) .non) (.cons (.revv 1) (.cons (.primv .list 1) (.cons .non (.cons (.bin .add (.tup (.cons (.prim .list (.ix 1 (.int 0))) .nil)) (.slv 1 (.som (.int 1)) .non)) (.cons (.bin .add (.var 1) (.slv 1 .non (.som (.int 1)))) .nil))))))) [some tp3, some (.tup rs), some u, some (.tup us), some (.int i), some (.int j)] =
      .ok [.tup (ca ++ [.tup us] ++ cb), .tup cc, .tup rs.reverse, .lst true rs, .non, .tup ([.lst true (r0.map fr)] ++ cc), .tup (rs ++ cd)] [some tp3, some (.tup rs), some u, some (.tup us), some (.int i), some (.int j)] := by
    have b1 : bin .add (.tup ca) (.tup [.tup us]) = some (.tup (ca ++ [.tup us])) := add_tup (by simp; omega)
    have b2 : bin .add (.tup (ca ++ [.tup us])) (.tup cb) = some (.tup (ca ++ [.tup us] ++ cb)) := add_tup (by rw [List.length_append, List.length_singleton]; omega)
    have b3 : bin .add (.tup [.lst true (r0.map fr)]) (.tup cc) = some (.tup ([.lst true (r0.map fr)] ++ cc)) := add_tup (by simp; omega)
    have b4 : bin .add (.tup rs) (.tup cd) = some (.tup (rs ++ cd)) := add_tup (by omega)
    have p1 : Iv.prim .list (.tup rs) = some (.lst true rs) := by show (if _ then _ else _) = _; rw [if_pos hrsF]
    have p2 := prim_list_frs r0
    have p3 : reved (.tup rs) = some (.tup rs.reverse) := by show (if _ then _ else _) = _; rw [if_pos hrsF]
    have r1 : readV [some tp3, some (.tup rs), some u, some (.tup us), some (.int i), some (.int j)] 1 = .ok (.tup rs) [some tp3, some (.tup rs), some u, some (.tup us), some (.int i), some (.int j)] := rd_F rfl (by unfold isF; exact hrsF)
    have r3 : readV [some tp3, some (.tup rs), some u, some (.tup us), some (.int i), some (.int j)] 3 = .ok (.tup us) [some tp3, some (.tup rs), some u, some (.tup us), some (.int i), some (.int j)] := rd_F rfl hrF
    have r4 : readV [some tp3, some (.tup rs), some u, some (.tup us), some (.int i), some (.int j)] 4 = .ok (.int i) [some tp3, some (.tup rs), some u, some (.tup us), some (.int i), some (.int j)] := rd_F rfl rfl
    have g1 : gt [some tp3, some (.tup rs), some u, some (.tup us), some (.int i), some (.int j)] 1 = some (.tup rs) := rfl
    generalize [some tp3, some (.tup rs), some u, some (.tup us), some (.int i), some (.int j)] = e at *
    simp only [x_evs_cons, x_evs_nil, x_ev_bin, x_ev_slv, has, g1, x_evo_non, x_evo_som, R.bind_ok, x_ev_var, r1, r3, r4, sa, sb, sc, sd, R.of_some, x_ev_tup, x_ev_int, bin_add_i, b1, b2, x_ev_revv, p3, x_ev_primv, p1, x_ev_non, x_ev_prim, hix0, p2, b3, b4]
  have hz1 : frz (.tup (ca ++ [.tup us] ++ cb)) = .tup (ca ++ [.tup us] ++ cb) := frz_of _ (by
    unfold isF
    refine isFs_mem.mpr fun v hv => ?_
    rcases List.mem_append.mp hv with hv | hv
    · rcases List.mem_append.mp hv with hv | hv
      · exact (ma v hv).1.F
      · rw [List.mem_singleton.mp hv]; exact hrF
    · exact (mb v hv).1.F)
  have hz2 : frz (.tup cc) = .tup cc := frz_of _ (by unfold isF; exact fc)
  have hz3 : frz (.tup rs.reverse) = .tup rs.reverse := frz_of _ (by
    unfold isF
    exact isFs_mem.mpr fun v hv => (hRE v (List.mem_reverse.mp hv)).1.F)
  have hz4 : frz (.lst true rs) = .lst false rs := by show T.lst false (frzs rs) = _; rw [frzs_of _ hrsF]
  have hz6 : frz (.tup ([.lst true (r0.map fr)] ++ cc)) = .tup ([.lst false (r0.map fr)] ++ cc) := by
    show T.tup (frzs ([.lst true (r0.map fr)] ++ cc)) = _
    rw [frzs_app, frzs_of cc fc]
    show T.tup ([T.lst false (frzs (r0.map fr))] ++ cc) = _
    rw [frzs_frl]
  have hz7 : frz (.tup (rs ++ cd)) = .tup (rs ++ cd) := frz_of _ (by
    unfold isF
    refine isFs_mem.mpr fun v hv => ?_
    rcases List.mem_append.mp hv with hv | hv
    · exact (hRE v hv).1.F
    · exact (md v hv).1.F)
  have hzs : frzs [.tup (ca ++ [.tup us] ++ cb), .tup cc, .tup rs.reverse, .lst true rs, .non, .tup ([.lst true (r0.map fr)] ++ cc), .tup (rs ++ cd)] = [.tup (ca ++ [.tup us] ++ cb), .tup cc, .tup rs.reverse, .lst false rs, .non, .tup ([.lst false (r0.map fr)] ++ cc), .tup (rs ++ cd)] := by
    rw [frzs, hz1, frzs, hz2, frzs, hz3, frzs, hz4, frzs, frzs, hz6, frzs, hz7]; rfl
  have hGE : ∀ v ∈ ([.tup (ca ++ [.tup us] ++ cb), .tup cc, .tup rs.reverse, .lst false rs, .non, .tup ([.lst false (r0.map fr)] ++ cc), .tup (rs ++ cd)] : List T), GE v := by
    intro v hv
    simp only [List.mem_cons, List.not_mem_nil, or_false] at hv
    rcases hv with rfl | rfl | rfl | rfl | rfl | rfl | rfl
    · refine GE.tup (fun v hv => ?_) (by rw [List.length_append, List.length_append, List.length_singleton]; omega)
      rcases List.mem_append.mp hv with hv | hv
      · rcases List.mem_append.mp hv with hv | hv
        · exact ma v hv
        · rw [List.mem_singleton.mp hv]; exact hrE
      · exact mb v hv
    · exact GE.tup mc (by omega)
    · exact GE.tup (fun v hv => hRE v (List.mem_reverse.mp hv)) (by rw [List.length_reverse]; omega)
    · exact GE.lst hRE (by omega)
    · exact GE.non
    · refine GE.tup (fun v hv => ?_) (by rw [List.length_append, List.length_singleton]; omega)
      rcases List.mem_append.mp hv with hv | hv
      · rw [List.mem_singleton.mp hv]
        exact RE.lst (hrow r0 hr0) (by rw [List.length_map]; omega)
      · exact mc v hv
    · refine GE.tup (fun v hv => ?_) (by rw [List.length_append]; omega)
      rcases List.mem_append.mp hv with hv | hv
      · exact hRE v hv
      · exact md v hv
  obtain ⟨w, tp4, hw4, t4, e4⟩ := ev_pick hn (k := 7) rfl t3 hev (by
    rw [hzs]
    exact isFs_mem.mpr fun v hv => (hGE v hv).1.F) rfl (by decide) (by decide)
  rw [hzs] at hw4
  refine ⟨w, tp4, t4, hGE w hw4, ?_⟩
  rw [ht0]
  refine run_io hio (e := [some tp4, some (.tup rs), some u, some (.tup us), some (.int i), some (.int j)]) ?_ rfl
  unfold Tx.bent startE
  show exs C _ [some tp, some (.tup rs), none, none, none, none] = _
  rw [exs_nx s1, exs_nx s2, exs_nx s3]
  refine exs_rt ?_
  have e4 : ev C (.idx (.lst _) (.cio n 0 (.cons (.int 7) .nil))) _ = _ := e4
  rw [x_ex_ret, e4]; rfl
end Iv
set_option Elab.async false
set_option linter.all false
set_option maxRecDepth 100000
set_option exponentiation.threshold 20000
namespace Iv
open PySem
/-! ### checks, places -/
theorem wtB_frs {l : List Rat} (h : ∀ q ∈ l, 0 ≤ q) : wtB (frs l) = true := wtB_iff.mpr ⟨l, rfl, fun q hq => num_nn.mpr (h q hq)⟩
theorem chB_one {l : List Rat} (h : ∀ q ∈ l, 0 ≤ q) (h1 : tot l = 1) : chB (frs l) = true := by rw [chB_frs, wtB_frs h, decide_eq_true h1]; rfl
theorem chkw_is {C : Cn} {w : Nat} (hio : C.io = false) (hw : IsP 60 wtB (C.call w)) : IsChkW (run C 1 (Tx.check1 w)) := by
  intro a ha wa na la
  refine check_is hio (isF_frs a) ?_
  have := hw (frs a) ((Vl_frs wa la).mono (by decide))
  rwa [wtB_frs ha] at this
def LetsT (f : List T → Cr) : Prop := ∀ (x y : Nat) (m : List (List Rat)), Shp x y m → x ≤ 100 → y ≤ 100 → TW 4000 m → f [tab m] = ok0 .non
theorem shp_Vl {x y : Nat} {m : List (List Rat)} (hs : Shp x y m) (hx : x ≤ 100) (hy : y ≤ 100) (hw : TW 4000 m) : Vl 3 (tab m) := Vl_tab (fun r hr => ⟨hw r hr, by rw [hs.2 r hr]; omega⟩) (by rw [hs.1]; omega)
theorem chkt_is {C : Cn} {w : Nat} (hio : C.io = false) (hw : IsP 59 tabB (C.call w)) : LetsT (run C 1 (Tx.check1 w)) := by
  intro x y m hs hx hy wm
  refine check_is hio (isF_tab m) ?_
  have := hw (tab m) ((shp_Vl hs hx hy wm).mono (by decide))
  rwa [tabB_tab hs] at this
def LetsK (f : List T → Cr) : Prop := ∀ (x y : Nat) (m : List (List Rat)), Shp x y m → x ≤ 100 → y ≤ 100 → TW 30 m → (∀ r ∈ m, (∀ q ∈ r, 0 ≤ q) ∧ tot r = 1) → f [tab m] = ok0 .non
theorem chkk_is {C : Cn} {t c : Nat} (hio : C.io = false) (ht : LetsT (C.call t)) (hc : IsCh (C.call c)) : LetsK (run C 2 (Tx.check_kernel t c)) := by
  intro x y m hs hx hy wm hm
  have hsz : SZ = 16777216 := rfl
  have h1 := ht x y m hs hx hy (wm.mono (by decide))
  have s1 : ex C (.exp (.call t (.cons (.var 0) .nil))) [some (tab m), none] = .ok .nx [some (tab m), none] := by
    rw [x_ex_exp, ev_c1 (ev_v (j := 0) (t := tab m) rfl (isF_tab m)) (by rw [frz_tab]; exact h1)]; rfl
  obtain ⟨e', s2, ⟨x1, rfl⟩⟩ := ex_for_rg (C := C) (t := .nm 1) (a := .primv .len 0) (b := .cons (.ife (.not (.call c (.cons (.ix 0 (.var 1)) .nil))) (.cons .never .nil) .nil) .nil) (n := x) (e := [some (tab m), none]) (e0 := [some (tab m), none]) (fun _ e => ∃ x1, e = [some (tab m), x1]) (by simp [gt, prim_len_tab, hs.1]) (by omega) ⟨_, rfl⟩ (by
    rintro k hk e ⟨x1, rfl⟩
    have hkm : k < m.length := by rw [hs.1]; exact hk
    have hr := getDD_mem hkm
    obtain ⟨p1, p2⟩ := hm _ hr
    have hcall := hc (frs (m.getD k [])) ((Vl_frs (fun q hq => (wm _ hr q hq).mono (by decide)) (by rw [hs.2 _ hr]; omega)).mono (by decide)) fun l e => by
      cases frs_inj e
      exact hs.sums wm (by omega) _ hr
    rw [chB_one p1 p2] at hcall
    refine ⟨[some (tab m), some (.int k)], ?_, ⟨_, rfl⟩⟩
    rw [asg_nm hio (by simp), R.bind_ok]
    show exs C _ [some (tab m), some (.int k)] = _
    rw [exs_nx (e1 := [some (tab m), some (.int k)])]
    · rfl
    · rw [x_ex_ife, ev_not2 (ev_c1 (ev_ixT (m := m) rfl (ev_vi rfl) hkm) (by rw [frz_frs]; exact hcall)), R.bind_ok]; rfl)
  refine run_nx hio (e := [some (tab m), x1]) ?_
  unfold Tx.check_kernel startE
  show exs C _ [some (tab m), none] = _
  rw [exs_nx s1, exs_nx s2]; rfl
def pairT (i j : Nat) : T := .tup [.int i, .int j]
def usedR (m : List (List Rat)) (i n : Nat) : List T := ((List.range n).filter fun j => decide (0 < at2 m i j)).map (pairT i)
def usedT (m : List (List Rat)) (x y : Nat) : List T := (List.range x).flatMap fun i => usedR m i y
def IsPlaces (f : List T → Cr) : Prop := ∀ (x y : Nat) (m : List (List Rat)), Shp x y m → x ≤ 4 → y ≤ 4 → f [tab m] = ok0 (.lst true (usedT m x y))
theorem num_pos {q : Rat} : 0 < q.num ↔ 0 < q := by
  have h1 := @num_nn (-q)
  have h2 : (-q).num = -q.num := Rat.neg_num q
  rw [h2] at h1
  constructor
  · intro h
    rcases (Rat.le_total : q ≤ 0 ∨ 0 ≤ q) with h3 | h3
    · have : 0 ≤ -q := by grind
      have := h1.mpr this
      omega
    · rcases Classical.em (q = 0) with h4 | h4
      · rw [h4] at h; exact absurd h (by decide)
      · grind
  · intro h
    rcases Int.lt_or_le 0 q.num with h3 | h3
    · exact h3
    · have := h1.mp (by omega)
      grind
theorem places_is {C : Cn} (hio : C.io = false) : IsPlaces (run C 3 Tx.places_used) := by
  intro x y m hs hx hy
  have hsz : SZ = 16777216 := rfl
  have e1 : ∀ i, (List.range y).flatMap (fun j => if 0 < at2 m i j then [pairT i j] else []) = usedR m i y := by
    intro i
    have := flat1 (pairT i) (fun j => decide (0 < at2 m i j)) (List.range y)
    unfold usedR
    simpa using this
  have hlen : ((List.range x).flatMap fun i => (List.range y).flatMap fun j => if 0 < at2 m i j then [pairT i j] else []).length ≤ SZ := by
    have h1 : ∀ i, ((List.range y).flatMap fun j => if 0 < at2 m i j then [pairT i j] else []).length ≤ y := by
      intro i
      rw [e1, usedR, List.length_map]
      exact Nat.le_trans (List.length_filter_le _ _) (by simp)
    have h2 : ∀ l : List Nat, (l.flatMap fun i => (List.range y).flatMap fun j => if 0 < at2 m i j then [pairT i j] else []).length ≤ l.length * 4 := by
      intro l
      induction l with
      | nil => exact Nat.zero_le _
      | cons i l ih =>
        have := h1 i
        rw [List.flatMap_cons, List.length_append, List.length_cons, Nat.succ_mul]; omega
    have := h2 (List.range x)
    rw [List.length_range] at this; omega
  have h := lc2A (C := C) (s := .rg1 (.primv .len 0)) (s2 := .rg1 (.prim .len (.ix 0 (.var 1)))) (c2 := .som (.cmp .gt (.idx (.idx (.ix 0 (.var 1)) (.var 2)) (.int 0)) (.int 0))) (x := .tup (.cons (.var 1) (.cons (.var 2) .nil))) (i := 1) (k := 2) (e := [some (tab m), none, none]) (l := List.range x) (fun i : Nat => T.int i) (fun i : Nat => T.int i) (fun _ => List.range y) (fun i j => if 0 < at2 m i j then [pairT i j] else []) (by decide) (by simp) (by simp) hio rfl
    (srs_rg (by simp [gt, prim_len_tab, hs.1]) (by omega)) hlen (fun i hi => by
      have hi := List.mem_range.mp hi
      have him : i < m.length := by rw [hs.1]; exact hi
      refine srs_rg ?_ (by omega)
      rw [x_ev_prim, ev_ixT (m := m) rfl (ev_vi rfl) him, R.bind_ok, prim_len_frs, hs.row hi]; rfl) (fun i hi j hj => by
      have hi := List.mem_range.mp hi
      have hj := List.mem_range.mp hj
      have him : i < m.length := by rw [hs.1]; exact hi
      have hjm : j < (m.getD i []).length := by rw [hs.row hi]; exact hj
      show ((cnd C (.som (.cmp .gt (.idx (.idx (.ix 0 (.var 1)) (.var 2)) (.int 0)) (.int 0))) [some (tab m), some (.int i), some (.int j)]).bind fun q e7 => if q = true then (ev C (.tup (.cons (.var 1) (.cons (.var 2) .nil))) e7).bind fun y e8 => .ok [y] e8 else .ok [] e7) = R.ok _ [some (tab m), some (.int i), some (.int j)]
      have hq : at2 m i j = (m.getD i []).getD j 0 := rfl
      rw [x_cnd_som, x_ev_cmp, x_ev_idx, ev_idQ (ev_ixT (m := m) rfl (ev_vi rfl) him) (ev_vi rfl) hjm, ← hq]
      by_cases h : 0 < at2 m i j
      · rw [if_pos h]
        have h' := num_pos.mpr h
        generalize at2 m i j = q at *
        simp [num_at, fz, isF, cmp, boolR, h', gt, rv_int, pairT]
      · rw [if_neg h]
        have h' : ¬ 0 < (at2 m i j).num := fun g => h (num_pos.mp g)
        generalize at2 m i j = q at *
        simp [num_at, fz, isF, cmp, boolR, h'])
  refine run_rt hio (e := [some (tab m), none, none]) ?_
  unfold Tx.places_used startE
  refine exs_rt ?_
  show ex C _ [some (tab m), none, none] = _
  have e2 : ((List.range x).flatMap fun i => (List.range y).flatMap fun j => if 0 < at2 m i j then [pairT i j] else []) = usedT m x y := by
    unfold usedT
    simp only [e1]
  rw [e2] at h
  rw [x_ex_ret, h]; rfl
/-! ### one more slot -/
structure Ext (e e' : Env) (i : Nat) (t : T) : Prop where
  off : ∀ j, j ≠ i → gt e' j = gt e j
  on : gt e' i = some t
  len : e'.length = e.length
theorem Ext.of {e : Env} {i : Nat} (t : T) (h : i < e.length) : Ext e (e.set i (some t)) i t := ⟨fun j hj => gt_ne (fun e => hj e.symm), gt_self h, List.length_set⟩
theorem Ext.k {e e' : Env} {i j : Nat} {t : T} {v : Option T} (h : Ext e e' i t) (hj : gt e j = v) (hn : j ≠ i := by decide) : gt e' j = v := (h.off j hn).trans hj
theorem own_none {e : Env} {i : Nat} (h : gt e i = none) : ownOk e [i] = true := ownO (by rw [h]; intro t ht; cases ht)
theorem own_F {e : Env} {i : Nat} {t : T} (h : gt e i = some t) (hf : isF t = true) : ownOk e [i] = true := ownO (by rw [h]; intro u hu; cases hu; exact hf)
theorem asgX {C : Cn} {x : E} {k : Nat} {e e1 : Env} {v : T} (hio : C.io = false) (hx : ev C x e = .ok v e1) (hk : k < e1.length) : ∃ e', ex C (.asg (.nm k) x) e = .ok .nx e' ∧ Ext e1 e' k v :=
  ⟨e1.set k (some v), by rw [x_ex_asg, hx, R.bind_ok, asg_nm hio hk]; rfl, Ext.of v hk⟩
/-- comprehensions over a range -/
theorem cR {C : Cn} {a x : E} {i n : Nat} {e : Env} (hio : C.io = false) (g : Nat → T) (ha : ev C a e = .ok (.int n) e) (hi : i < e.length) (ho : ownOk e [i] = true) (hl : n ≤ 1000)
    (hx : ∀ k, k < n → ∀ e', Ext e e' i (.int k) → ev C x e' = .ok (g k) e') : ev C (.lc [i] (.nm i) (.rg1 a) .non x) e = .ok (.lst true ((List.range n).map g)) e :=
  lc1r (e0 := e) g ha hi hio ho (by have : SZ = 16777216 := rfl; omega) fun k hk => hx k hk _ (Ext.of _ hi)
theorem cA {α : Type} (f : α → T) {C : Cn} {s : Sr} {x : E} {i : Nat} {e : Env} {l : List α} (hio : C.io = false) (g : α → T) (hs : srs C s e = .ok (l.map f) e) (hi : i < e.length) (ho : ownOk e [i] = true) (hl : l.length ≤ 1000)
    (hx : ∀ a ∈ l, ∀ e', Ext e e' i (f a) → ev C x e' = .ok (g a) e') : ev C (.lc [i] (.nm i) s .non x) e = .ok (.lst true (l.map g)) e :=
  lcA f (e0 := e) g hs hi hio ho (by have : SZ = 16777216 := rfl; omega) fun a ha => hx a ha _ (Ext.of _ hi)
theorem cAc {α : Type} (f : α → T) {C : Cn} {s : Sr} {c x : E} {i : Nat} {e : Env} {l : List α} (hio : C.io = false) (p : α → Bool) (g : α → T) (hs : srs C s e = .ok (l.map f) e) (hi : i < e.length) (ho : ownOk e [i] = true) (hl : l.length ≤ 1000)
    (hc : ∀ a ∈ l, ∀ e', Ext e e' i (f a) → ev C c e' = .ok (.bl (p a)) e') (hx : ∀ a ∈ l, p a = true → ∀ e', Ext e e' i (f a) → ev C x e' = .ok (g a) e') : ev C (.lc [i] (.nm i) s (.som c) x) e = .ok (.lst true ((l.filter p).map g)) e :=
  lcAc f (e0 := e) p g hs hi hio ho (by have : SZ = 16777216 := rfl; omega) (fun a ha => hc a ha _ (Ext.of _ hi)) fun a ha hp => hx a ha hp _ (Ext.of _ hi)
theorem tupQ {C : Cn} {x : E} {e e' : Env} {o : Bool} {α : Type} {l : List α} {g : α → Rat} (h : ev C x e = .ok (.lst o (l.map fun a => fr (g a))) e') : ev C (.prim .tuple x) e = .ok (frs (l.map g)) e' := by
  have e1 : l.map (fun a => fr (g a)) = (l.map g).map fr := by rw [List.map_map]; rfl
  rw [x_ev_prim, h, R.bind_ok, e1, prim_tuple (isFs_frs _)]; rfl
theorem tupT {C : Cn} {x : E} {e e' : Env} {o : Bool} {α : Type} {l : List α} {g : α → List Rat} (h : ev C x e = .ok (.lst o (l.map fun a => frs (g a))) e') : ev C (.prim .tuple x) e = .ok (tab (l.map g)) e' := by
  have e1 : l.map (fun a => frs (g a)) = (l.map g).map frs := by rw [List.map_map]; rfl
  rw [x_ev_prim, h, R.bind_ok, e1, prim_tuple (isFs_tab _)]; rfl
theorem ev_l1 {C : Cn} {f : Nat} {x : E} {e : Env} {l : List Rat} {g : α → Rat} {us : List α} {t : T} (hx : ev C x e = .ok (.lst true (us.map fun a => fr (g a))) e) (h : C.call f [.lst false ((us.map g).map fr)] = ok0 t) : ev C (.call f (.cons x .nil)) e = .ok t e := by
  refine ev_c1 hx ?_
  have e1 : us.map (fun a => fr (g a)) = (us.map g).map fr := by rw [List.map_map]; rfl
  show C.call f [T.lst false (frzs (us.map fun a => fr (g a)))] = _
  rw [e1, frzs_frl]; exact h
/-- an if that asks for the same values -/
theorem same_if {C : Cn} {m k : Nat} {x y : E} {e e1 e2 : Env} {a b v : T} (hm : SameTo k (C.call m)) (hx : ev C x e = .ok a e1) (hy : ev C y e1 = .ok b e2) (ha : frz a = v) (hb : frz b = v) (hv : Vl k v) :
    ex C (.ife (.not (.call m (.cons x (.cons y .nil)))) (.cons (.ret (.bl false)) .nil) .nil) e = .ok .nx e2 := by
  have h : ev C (.call m (.cons x (.cons y .nil))) e = .ok (.bl true) e2 := by
    rw [x_ev_call, x_evs_cons, hx, R.bind_ok, x_evs_cons, hy, R.bind_ok, x_evs_nil, R.bind_ok, R.bind_ok, R.bind_ok]
    show crR (C.call m [frz a, frz b]) e2 = _
    rw [ha, hb, hm v hv]; rfl
  rw [x_ex_ife, x_ev_not, h]; rfl
structure K02 (C : Cn) : Prop where
  io : C.io = false
  rof : IsP 60 rowB (C.call 7)
  ist : IsP 59 tabB (C.call 8)
  ct : LetsT (C.call 9)
  isw : IsP 60 wtB (C.call 10)
  cw : IsChkW (C.call 11)
  ch : IsCh (C.call 12)
  kn : IsKn (C.call 13)
  ck : LetsK (C.call 14)
  rs : IsRowSums (C.call 15)
  cs : IsColSums (C.call 16)
  cp : IsCp (C.call 17)
  tu : IsTurned (C.call 19)
  tt : IsTT (C.call 20)
  tr : IsTR (C.call 21)
  dt : IsDot (C.call 22)
  dtt : IsDotT (C.call 23)
  pk : IsPlain (C.call 24)
  ek : IsEven (C.call 25)
  kp : IsKP (C.call 26)
  ap : IsOuter (C.call 27)
  cr : IsCorner (C.call 28)
  ko : IsKerOf (C.call 29)
  co : IsCoupOf (C.call 30)
  pu : IsPlaces (C.call 31)
  st : IsSumT (C.call 32)
  sc : IsScaled (C.call 33)
  nx : IsNext (C.call 34)
  sm : SameTo 10 (C.call 35)
  le : IsMade (C.call 36)
  pl : IsPlus (C.call 37)
  ti : IsTimes (C.call 40)
  to : IsSum (C.call 41)
  rw : IsLRow (C.call 42)
  tb : IsLTab (C.call 48)
  lp : IsLP (C.call 49)
  lc : IsLC (C.call 50)
  li : IsCp (C.call 51)
  gd : IsFrac (C.call 52)
  be : IsBent (C.call 53)
end Iv
set_option Elab.async false
set_option linter.all false
set_option maxRecDepth 100000
set_option exponentiation.threshold 20000
namespace Q02
open Iv
def q1 : S :=
    (.asg (.nm 1) (.lst (.cons (.primv .list 0) (.cons (.int 0) (.cons (.int 0) (.cons (.int 2) .nil))))))
def q2 : S :=
    (.asg (.tp (.cons (.nm 21) (.cons (.nm 22) (.cons (.nm 23) .nil)))) (.tup (.cons (.bin .add (.int 1) (.cio 34 1 (.cons (.int 4) .nil))) (.cons (.bin .add (.int 1) (.cio 34 1 (.cons (.int 4) .nil))) (.cons (.bin .add (.int 1) (.cio 34 1 (.cons (.int 3) .nil))) .nil)))))
def q3 : S :=
    (.asg (.tp (.cons (.nm 24) (.cons (.nm 25) (.cons (.nm 26) .nil)))) (.tup (.cons (.cio 48 1 (.cons (.var 21) (.cons (.var 22) .nil))) (.cons (.cio 48 1 (.cons (.var 21) (.cons (.var 22) .nil))) (.cons (.cio 48 1 (.cons (.var 22) (.cons (.var 23) .nil))) .nil)))))
def q4 : S :=
    (.asg (.nm 2) (.prim .tuple (.lc [32] (.nm 32) (.rg1 (.var 22)) .non (.prim .tuple (.lc [36] (.nm 36) (.seq (.var 24)) .non (.ix 36 (.var 32)))))))
def q5 : S :=
    (.asg (.nm 3) (.lst (.cons (.call 15 (.cons (.var 24) .nil)) (.cons (.call 16 (.cons (.var 24) (.cons (.var 22) .nil))) (.cons (.call 19 (.cons (.var 24) (.cons (.var 22) .nil))) (.cons (.call 20 (.cons (.var 24) (.cons (.var 26) .nil))) (.cons (.call 21 (.cons (.ix 24 (.int 0)) (.cons (.var 26) .nil))) .nil)))))))
def q6 : S :=
    (.asg (.nm 4) (.call 49 (.cons (.var 24) (.cons (.var 26) (.cons (.var 23) .nil)))))
def q7 : S :=
    (.ife (.not (.call 35 (.cons (.var 3) (.cons (.lst (.cons (.prim .tuple (.lc [36] (.nm 36) (.seq (.var 24)) .non (.call 41 (.cons (.var 36) .nil)))) (.cons (.prim .tuple (.lc [36] (.nm 36) (.seq (.var 2)) .non (.call 41 (.cons (.var 36) .nil)))) (.cons (.var 2) (.cons (.var 4) (.cons (.ix 4 (.int 0)) .nil)))))) .nil)))) (.cons (.ret (.bl false))
    .nil) .nil)
def q8 : S :=
    (.asg (.nm 5) (.prim .tuple (.lc [17] (.nm 17) (.rg1 (.var 21)) .non (.prim .tuple (.lc [33] (.nm 33) (.rg1 (.var 22)) .non (.call 37 (.cons (.idx (.ix 24 (.var 17)) (.var 33)) (.cons (.idx (.ix 25 (.var 17)) (.var 33)) .nil))))))))
def q9 : S :=
    (.asg (.nm 6) (.lc [17] (.nm 17) (.rg1 (.var 21)) .non (.call 41 (.cons (.lc [33] (.nm 33) (.rg1 (.var 22)) .non (.call 40 (.cons (.idx (.ix 24 (.var 17)) (.var 33)) (.cons (.idx (.ix 25 (.var 17)) (.var 33)) .nil)))) .nil))))
def q10 : S :=
    (.asg (.nm 7) (.call 36 (.cons (.bin .sub (.cio 34 1 (.cons (.int 7) .nil)) (.int 3)) (.cons (.int 2) .nil))))
def q11 : S :=
    (.asg (.nm 3) (.lst (.cons (.call 32 (.cons (.var 24) (.cons (.var 25) .nil))) (.cons (.call 22 (.cons (.ix 24 (.int 0)) (.cons (.ix 25 (.int 0)) .nil))) (.cons (.call 23 (.cons (.var 24) (.cons (.var 25) .nil))) (.cons (.call 33 (.cons (.var 24) (.cons (.var 7) .nil))) .nil))))))
def q12 : S :=
    (.ife (.not (.call 35 (.cons (.var 3) (.cons (.lst (.cons (.var 5) (.cons (.ix 6 (.int 0)) (.cons (.call 41 (.cons (.var 6) .nil)) (.cons (.prim .tuple (.lc [36] (.nm 36) (.seq (.var 24)) .non (.prim .tuple (.lc [35] (.nm 35) (.seq (.var 36)) .non (.call 40 (.cons (.var 35) (.cons (.var 7) .nil))))))) .nil))))) .nil)))) (.cons (.ret (.bl false))
    .nil) .nil)
def q13 : S :=
    (.asg (.nm 8) (.prim .tuple (.lc [32] (.nm 32) (.rg1 (.var 22)) .non (.cio 42 1 (.cons (.var 22) .nil)))))
def q14 : S :=
    (.asg (.nm 9) (.prim .tuple (.lc [33] (.nm 33) (.rg1 (.var 22)) .non (.prim .tuple (.lc [32] (.nm 32) (.rg1 (.var 22)) .non (.tup (.cons (.prim .int (.cmpL .eq 33 (.var 32))) (.cons (.int 1) .nil))))))))
def q15 : S :=
    (.asg (.nm 10) (.var 9))
def q16 : S :=
    (.asg (.nm 11) (.cio 34 1 (.cons (.int 4) .nil)))
def q17 : S :=
    (.for (.nm 12) (.rg1 (.var 11)) (.cons (.asg (.nm 10) (.call 49 (.cons (.var 10) (.cons (.var 8) (.cons (.var 22) .nil)))))
    .nil))
def q18 : S :=
    (.asg (.nm 13) (.prim .tuple (.lc [32] (.nm 32) (.rg1 (.var 22)) .non (.bin .mul (.tup (.cons (.call 36 (.cons (.int 1) (.cons (.var 22) .nil))) .nil)) (.var 22)))))
def q19 : S :=
    (.ife (.or (.not (.call 35 (.cons (.lst (.cons (.call 26 (.cons (.var 8) (.cons (.var 11) .nil))) (.cons (.call 24 (.cons (.var 22) .nil)) (.cons (.call 25 (.cons (.var 22) .nil)) .nil)))) (.cons (.lst (.cons (.var 10) (.cons (.var 9) (.cons (.var 13) .nil)))) .nil)))) (.isb true (.call 13 (.cons (.var 10) .nil)) true)) (.cons (.ret (.bl false))
    .nil) .nil)
def q20 : S :=
    (.asg (.tp (.cons (.nm 27) (.cons (.nm 28) .nil))) (.tup (.cons (.cio 42 1 (.cons (.var 21) .nil)) (.cons (.cio 42 1 (.cons (.var 22) .nil)) .nil))))
def q21 : S :=
    (.asg (.nm 7) (.call 36 (.cons (.bin .add (.int 1) (.cio 34 1 (.cons (.int 5) .nil))) (.cons (.bin .add (.int 1) (.cio 34 1 (.cons (.int 3) .nil))) .nil))))
def q22 : S :=
    (.asg (.tp (.cons (.nm 29) (.cons (.nm 30) .nil))) (.tup (.cons (.prim .tuple (.lc [35] (.nm 35) (.seq (.var 27)) .non (.call 40 (.cons (.var 35) (.cons (.var 7) .nil))))) (.cons (.prim .tuple (.lc [35] (.nm 35) (.seq (.var 28)) .non (.call 40 (.cons (.var 35) (.cons (.var 7) .nil))))) .nil))))
def q23 : S :=
    (.asg (.nm 14) (.call 50 (.cons (.var 29) (.cons (.var 30) .nil))))
def q24 : S :=
    (.asg (.nm 15) (.prim .tuple (.lc [34] (.nm 34) (.seq (.var 27)) .non (.prim .tuple (.lc [37] (.nm 37) (.seq (.var 28)) .non (.call 40 (.cons (.var 34) (.cons (.var 37) .nil))))))))
def q25 : S :=
    (.ife (.not (.call 35 (.cons (.lst (.cons (.call 28 (.cons (.var 29) (.cons (.var 30) .nil))) (.cons (.call 27 (.cons (.var 27) (.cons (.var 28) .nil))) .nil))) (.cons (.lst (.cons (.var 14) (.cons (.var 15) .nil))) .nil)))) (.cons (.ret (.bl false))
    .nil) .nil)
def q26 : S :=
    (.asg (.nm 16) (.lst .nil))
def q27 : S :=
    (.for (.nm 17) (.rg1 (.var 21)) (.cons (.asg (.nm 16) (.bin .add (.var 16) (.lc [33] (.nm 33) (.rg1 (.var 22)) (.som (.cmp .gt (.idx (.idx (.ix 14 (.var 17)) (.var 33)) (.int 0)) (.int 0))) (.tup (.cons (.var 17) (.cons (.var 33) .nil))))))
    .nil))
def q28 : S :=
    (.asg (.nm 18) (.prim .tuple (.lc [17] (.nm 17) (.rg1 (.var 21)) .non (.ife (.cmp .gt (.idx (.ix 29 (.var 17)) (.int 0)) (.int 0)) (.prim .tuple (.lc [35] (.nm 35) (.seq (.ix 14 (.var 17))) .non (.call 40 (.cons (.var 35) (.cons (.tup (.cons (.idx (.ix 29 (.var 17)) (.int 1)) (.cons (.idx (.ix 29 (.var 17)) (.int 0)) .nil))) .nil))))) (.bin .add (.tup (.cons (.tup (.cons (.int 1) (.cons (.int 1) .nil))) .nil)) (.bin .mul (.tup (.cons (.tup (.cons (.int 0) (.cons (.int 1) .nil))) .nil)) (.bin .sub (.var 22) (.int 1))))))))
def q29 : S :=
    (.ife (.not (.call 35 (.cons (.lst (.cons (.call 31 (.cons (.var 14) .nil)) (.cons (.call 29 (.cons (.var 14) .nil)) (.cons (.call 30 (.cons (.var 29) (.cons (.var 18) .nil))) .nil)))) (.cons (.lst (.cons (.var 16) (.cons (.var 18) (.cons (.var 14) .nil)))) .nil)))) (.cons (.ret (.bl false))
    .nil) .nil)
def q30 : S :=
    (.for (.nm 19) (.seq (.tup (.cons (.var 14) (.cons (.var 15) (.cons (.cio 53 1 (.cons (.var 14) .nil)) (.cons (.cio 53 1 (.cons (.var 14) .nil)) (.cons (.cio 53 1 (.cons (.var 15) .nil)) .nil))))))) (.cons (.ife (.not (.call 35 (.cons (.call 17 (.cons (.var 29) (.cons (.var 30) (.cons (.var 19) .nil)))) (.cons (.call 51 (.cons (.var 29) (.cons (.var 30) (.cons (.var 19) .nil)))) .nil)))) (.cons (.ret (.bl false))
    .nil) .nil)
    .nil))
def q31 : S :=
    (.ife (.or (.isn true (.call 9 (.cons (.var 24) .nil))) (.or (.isn true (.call 14 (.cons (.var 8) .nil))) (.isn true (.call 11 (.cons (.var 29) .nil))))) (.cons (.ret (.bl false))
    .nil) .nil)
def q32 : S :=
    (.asg (.nm 20) (.lst (.cons (.var 27) (.cons (.var 29) (.cons (.ix 24 (.int 0)) (.cons (.primv .list 27) (.cons (.bin .add (.var 27) (.tup (.cons (.tup (.cons (.neg (.int 1)) (.cons (.int 1) .nil))) (.cons (.tup (.cons (.int 1) (.cons (.int 1) .nil))) .nil)))) (.cons .non (.cons (.tup .nil) (.cons (.bin .add (.slv 27 (.som (.int 1)) .non) (.tup (.cons (.tup (.cons (.int 2) (.cons (.int 4) .nil))) .nil))) (.cons (.tup (.cons (.int 1) .nil)) .nil)))))))))))
def q33 : S :=
    (.for (.nm 19) (.seq (.var 20)) (.cons (.asg (.nm 9) (.and (.isiv 19 .tuple) (.cmp .eq (.lc [35] (.nm 35) (.seq (.var 19)) (.som (.not (.call 52 (.cons (.var 35) .nil)))) (.var 35)) (.lst .nil))))
    (.cons (.asg (.nm 31) (.and (.var 9) (.cmp .eq (.lc [35] (.nm 35) (.seq (.var 19)) (.som (.cmp .lt (.ix 35 (.int 0)) (.int 0))) (.var 35)) (.lst .nil))))
    (.cons (.ife (.not (.call 35 (.cons (.lst (.cons (.call 7 (.cons (.var 19) .nil)) (.cons (.call 10 (.cons (.var 19) .nil)) (.cons (.call 12 (.cons (.var 19) .nil)) .nil)))) (.cons (.lst (.cons (.var 9) (.cons (.var 31) (.cons (.and (.var 31) (.cmp .eq (.call 41 (.cons (.var 19) .nil)) (.tup (.cons (.int 1) (.cons (.int 1) .nil))))) .nil)))) .nil)))) (.cons (.ret (.bl false))
    .nil) .nil)
    .nil))))
def q34 : S :=
    (.asg (.nm 20) (.lst (.cons (.var 24) (.cons (.var 8) (.cons (.tup .nil) (.cons (.primv .list 24) (.cons (.bin .add (.var 24) (.tup (.cons (.tup .nil) .nil))) (.cons .non (.cons (.bin .add (.var 8) (.tup (.cons (.bin .add (.var 27) (.var 27)) .nil))) (.cons (.tup (.cons .non .nil)) .nil))))))))))
def q35 : S :=
    (.for (.nm 19) (.seq (.var 20)) (.cons (.asg (.nm 9) (.and (.isiv 19 .tuple) (.and (.cmp .eq (.lc [36] (.nm 36) (.seq (.var 19)) (.som (.not (.isiv 36 .tuple))) (.var 36)) (.lst .nil)) (.cmp .eq (.lc [36] (.nm 36) (.seq (.var 19)) (.som (.cmp .ne (.primv .len 36) (.prim .len (.ix 19 (.int 0))))) (.var 36)) (.lst .nil)))))
    (.cons (.asg (.nm 18) (.and (.var 9) (.cmp .eq (.lc [36] (.nm 36) (.seq (.var 19)) (.som (.or (.cmp .ne (.lc [35] (.nm 35) (.seq (.var 36)) (.som (.cmp .lt (.ix 35 (.int 0)) (.int 0))) (.var 35)) (.lst .nil)) (.cmp .ne (.call 41 (.cons (.var 36) .nil)) (.tup (.cons (.int 1) (.cons (.int 1) .nil)))))) (.var 36)) (.lst .nil))))
    (.cons (.ife (.not (.call 35 (.cons (.lst (.cons (.call 8 (.cons (.var 19) .nil)) (.cons (.call 13 (.cons (.var 19) .nil)) .nil))) (.cons (.lst (.cons (.var 9) (.cons (.var 18) .nil))) .nil)))) (.cons (.ret (.bl false))
    .nil) .nil)
    .nil))))
def q36 : S :=
    (.ret (.bl true))
def lawT : Ss :=
    (.cons q1 (.cons q2 (.cons q3 (.cons q4 (.cons q5 (.cons q6 (.cons q7 (.cons q8 (.cons q9 (.cons q10 (.cons q11 (.cons q12 (.cons q13 (.cons q14 (.cons q15 (.cons q16 (.cons q17 (.cons q18 (.cons q19 (.cons q20 (.cons q21 (.cons q22 (.cons q23 (.cons q24 (.cons q25 (.cons q26 (.cons q27 (.cons q28 (.cons q29 (.cons q30 (.cons q31 (.cons q32 (.cons q33 (.cons q34 (.cons q35 (.cons q36 .nil))))))))))))))))))))))))))))))))))))
end Q02
namespace Iv
open PySem Q02
/-! ### draws -/
theorem ev_nx {C : Cn} {n : Nat} (hn : IsNext (C.call n)) {e : Env} {tp : T} {a : E} {k j : Nat} (h : gt e j = some tp) (hj : j < e.length) (ht : Tape tp) (h0 : 0 < k) (h1 : k ≤ 1000) (ha : ev C a e = .ok (.int k) e) : ∃ (r : Nat) (tp' : T) (e' : Env), r < k ∧ Tape tp' ∧ Ext e e' j tp' ∧ ev C (.cio n j (.cons a .nil)) e = .ok (.int r) e' := by
  obtain ⟨r, tp', q1, q2, q3⟩ := hn tp ht k h0 h1
  refine ⟨r, tp', e.set j (some tp'), q1, q2, Ext.of _ hj, ?_⟩
  rw [x_ev_cio, x_evs_cons, ha, R.bind_ok, x_evs_nil, R.bind_ok, R.bind_ok, has, h]
  show crIo (C.call n [tp, .int k]) j e = _
  rw [q3]; rfl
theorem ev_tb {C : Cn} {n : Nat} (hn : IsLTab (C.call n)) {e : Env} {tp : T} {a b j : Nat} {x y : E} (h : gt e j = some tp) (hj : j < e.length) (ht : Tape tp) (ha : a ≤ 100) (hb : b ≤ 100) (hx : ev C x e = .ok (.int a) e) (hy : ev C y e = .ok (.int b) e) : ∃ (m : List (List Rat)) (tp' : T) (e' : Env), Shp a b m ∧ TW 4 m ∧ Tape tp' ∧ Ext e e' j tp' ∧ ev C (.cio n j (.cons x (.cons y .nil))) e = .ok (tab m) e' := by
  obtain ⟨m, tp', q1, q2, q3, q4⟩ := hn tp ht a b ha hb
  refine ⟨m, tp', e.set j (some tp'), q2, q3, q1, Ext.of _ hj, ?_⟩
  rw [x_ev_cio, x_evs_cons, hx, R.bind_ok, x_evs_cons, hy, R.bind_ok, x_evs_nil, R.bind_ok, R.bind_ok, R.bind_ok, has, h]
  show crIo (C.call n [tp, .int a, .int b]) j e = _
  rw [q4]; rfl
theorem ev_rw {C : Cn} {n : Nat} (hn : IsLRow (C.call n)) {e : Env} {tp : T} {a j : Nat} {x : E} (h : gt e j = some tp) (hj : j < e.length) (ht : Tape tp) (h0 : 0 < a) (ha : a ≤ 4) (hx : ev C x e = .ok (.int a) e) : ∃ (l : List Rat) (tp' : T) (e' : Env), l.length = a ∧ tot l = 1 ∧ (∀ q ∈ l, 0 ≤ q ∧ Wt 5 q) ∧ Tape tp' ∧ Ext e e' j tp' ∧ ev C (.cio n j (.cons x .nil)) e = .ok (frs l) e' := by
  obtain ⟨l, tp', q1, q2, q3, q4, q5⟩ := hn tp ht a h0 (by omega)
  refine ⟨l, tp', e.set j (some tp'), q2, q3, fun q hq => ⟨(q4 q hq).1, (q4 q hq).2.2 ha⟩, q1, Ext.of _ hj, ?_⟩
  rw [x_ev_cio, x_evs_cons, hx, R.bind_ok, x_evs_nil, R.bind_ok, R.bind_ok, has, h]
  show crIo (C.call n [tp, .int a]) j e = _
  rw [q5]; rfl
theorem ev_be {C : Cn} {n : Nat} (hn : IsBent (C.call n)) {e : Env} {tp : T} {a b j i : Nat} {m : List (List Rat)} (h : gt e j = some tp) (hj : j < e.length) (ht : Tape tp) (hs : Shp a b m) (h0 : 0 < a) (h1 : 0 < b) (ha : a ≤ 4) (hb : b ≤ 4) (hw : TW 900 m) (hi : gt e i = some (tab m)) : ∃ (t tp' : T) (e' : Env), GE t ∧ Tape tp' ∧ Ext e e' j tp' ∧ ev C (.cio n j (.cons (.var i) .nil)) e = .ok t e' := by
  obtain ⟨t, tp', q1, q2, q3⟩ := hn tp ht a b m hs h0 h1 ha hb hw
  refine ⟨t, tp', e.set j (some tp'), q2, q1, Ext.of _ hj, ?_⟩
  rw [x_ev_cio, x_evs_cons, ev_v hi (isF_tab m), R.bind_ok, x_evs_nil, R.bind_ok, R.bind_ok, has, h]
  show crIo (C.call n [tp, frz (tab m)]) j e = _
  rw [frz_tab, q3]; rfl
theorem ex_tp3 {C : Cn} (hio : C.io = false) {es : Es} {e e1 : Env} {a b c : Nat} {u v w : T} (h : evs C es e = .ok [u, v, w] e1) (ha : a < e1.length) (hb : b < e1.length) (hc : c < e1.length) : ∃ e2 e3 e', ex C (.asg (.tp (.cons (.nm a) (.cons (.nm b) (.cons (.nm c) .nil)))) (.tup es)) e = .ok .nx e' ∧ Ext e1 e2 a u ∧ Ext e2 e3 b v ∧ Ext e3 e' c w := by
  refine ⟨e1.set a (some u), (e1.set a (some u)).set b (some v), ((e1.set a (some u)).set b (some v)).set c (some w), ?_, Ext.of _ ha, Ext.of _ (by rw [List.length_set]; exact hb), Ext.of _ (by rw [List.length_set, List.length_set]; exact hc)⟩
  rw [x_ex_asg, x_ev_tup, h, R.bind_ok, R.bind_ok]
  show (asgTgs C _ [u, v, w] e1).bind _ = _
  rw [x_asgTgs_cons, asg_nm hio ha, R.bind_ok, x_asgTgs_cons, asg_nm hio (by rw [List.length_set]; exact hb), R.bind_ok, x_asgTgs_cons, asg_nm hio (by rw [List.length_set, List.length_set]; exact hc), R.bind_ok]; rfl
theorem ex_tp2 {C : Cn} (hio : C.io = false) {es : Es} {e e1 : Env} {a b : Nat} {u v : T} (h : evs C es e = .ok [u, v] e1) (ha : a < e1.length) (hb : b < e1.length) : ∃ e2 e', ex C (.asg (.tp (.cons (.nm a) (.cons (.nm b) .nil))) (.tup es)) e = .ok .nx e' ∧ Ext e1 e2 a u ∧ Ext e2 e' b v := by
  refine ⟨e1.set a (some u), (e1.set a (some u)).set b (some v), ?_, Ext.of _ ha, Ext.of _ (by rw [List.length_set]; exact hb)⟩
  rw [x_ex_asg, x_ev_tup, h, R.bind_ok, R.bind_ok]
  show (asgTgs C _ [u, v] e1).bind _ = _
  rw [x_asgTgs_cons, asg_nm hio ha, R.bind_ok, x_asgTgs_cons, asg_nm hio (by rw [List.length_set]; exact hb), R.bind_ok]; rfl
theorem evs3 {C : Cn} {x y z : E} {e e1 e2 e3 : Env} {u v w : T} (h1 : ev C x e = .ok u e1) (h2 : ev C y e1 = .ok v e2) (h3 : ev C z e2 = .ok w e3) : evs C (.cons x (.cons y (.cons z .nil))) e = .ok [u, v, w] e3 := by
  rw [x_evs_cons, h1, R.bind_ok, x_evs_cons, h2, R.bind_ok, x_evs_cons, h3, R.bind_ok]; rfl
theorem evs2 {C : Cn} {x y : E} {e e1 e2 : Env} {u v : T} (h1 : ev C x e = .ok u e1) (h2 : ev C y e1 = .ok v e2) : evs C (.cons x (.cons y .nil)) e = .ok [u, v] e2 := by
  rw [x_evs_cons, h1, R.bind_ok, x_evs_cons, h2, R.bind_ok]; rfl
theorem evsC {C : Cn} {x : E} {r : Es} {e e1 e2 : Env} {u : T} {us : List T} (h1 : ev C x e = .ok u e1) (h2 : evs C r e1 = .ok us e2) : evs C (.cons x r) e = .ok (u :: us) e2 := by
  rw [x_evs_cons, h1, R.bind_ok, h2]; rfl
theorem ev_inc {C : Cn} {x : E} {e e1 : Env} {r : Nat} (h : ev C x e = .ok (.int r) e1) : ev C (.bin .add (.int 1) x) e = .ok (.int (r + 1 : Nat)) e1 := by
  rw [x_ev_bin, x_ev_int, R.bind_ok, h, R.bind_ok, bin_add_i, R.of_some, Int.natCast_add, Int.add_comm]; rfl
theorem rd_O {e : Env} {j : Nat} {V : List T} (h : gt e j = some (.lst true V)) (hf : isFs V = true) : readV e j = .ok (.lst false V) (e.set j (some (.lst false V))) := by
  have h3 : frz (.lst true V) = .lst false V := by show T.lst false (frzs V) = _; rw [frzs_of _ hf]
  rw [readV, h]
  show (if isF (.lst true V) = true then _ else R.ok (frz (.lst true V)) (e.set j (some (frz (.lst true V))))) = _
  rw [h3, if_neg (by show ¬ (!true && _) = true; simp)]
theorem ev_lstX {C : Cn} {es : Es} {e e1 : Env} {us : List T} (h : evs C es e = .ok us e1) : ev C (.lst es) e = .ok (.lst true (frzs us)) e1 := by rw [x_ev_lst, h]; rfl
theorem frz_lstO {V : List T} (h : isFs V = true) (o : Bool) : frz (.lst o V) = .lst false V := by show T.lst false (frzs V) = _; rw [frzs_of _ h]
/-! ### what stays through the law -/
structure Ba (e : Env) (x y z : Nat) (A B D : List (List Rat)) : Prop where
  len : e.length = 38
  nn : ∀ j, 32 ≤ j → gt e j = none
  x0 : 0 < x
  x4 : x ≤ 4
  y0 : 0 < y
  y4 : y ≤ 4
  z0 : 0 < z
  z4 : z ≤ 4
  sA : Shp x y A
  sB : Shp x y B
  sD : Shp y z D
  wA : TW 4 A
  wB : TW 4 B
  wD : TW 4 D
  h17 : frozenO (gt e 17)
  h21 : gt e 21 = some (.int x)
  h22 : gt e 22 = some (.int y)
  h23 : gt e 23 = some (.int z)
  h24 : gt e 24 = some (tab A)
  h25 : gt e 25 = some (tab B)
  h26 : gt e 26 = some (tab D)
theorem Ba.ext {e e' : Env} {x y z k : Nat} {A B D : List (List Rat)} {v : T} (h : Ba e x y z A B D) (g : Ext e e' k v) (hk : (k < 21 ∧ k ≠ 17) ∨ (26 < k ∧ k < 32)) : Ba e' x y z A B D := by
  obtain ⟨h1, h2, h3, h4, h5, h6, h7, h8, h9, h10, h11, h12, h13, h14, h15, h16, h17, h18, h19, h20, h21⟩ := h
  exact ⟨g.len.trans h1, fun j hj => (g.off j (by omega)).trans (h2 j hj), h3, h4, h5, h6, h7, h8, h9, h10, h11, h12, h13, h14, by rw [g.off 17 (by omega)]; exact h15, (g.off _ (by omega)).trans h16, (g.off _ (by omega)).trans h17, (g.off _ (by omega)).trans h18, (g.off _ (by omega)).trans h19, (g.off _ (by omega)).trans h20, (g.off _ (by omega)).trans h21⟩
theorem Ba.ext17 {e e' : Env} {x y z : Nat} {A B D : List (List Rat)} {v : T} (h : Ba e x y z A B D) (g : Ext e e' 17 v) (hv : isF v = true) : Ba e' x y z A B D := by
  obtain ⟨h1, h2, h3, h4, h5, h6, h7, h8, h9, h10, h11, h12, h13, h14, h15, h16, h17, h18, h19, h20, h21⟩ := h
  exact ⟨g.len.trans h1, fun j hj => (g.off j (by omega)).trans (h2 j hj), h3, h4, h5, h6, h7, h8, h9, h10, h11, h12, h13, h14, by rw [g.on]; intro t ht; cases ht; exact hv, (g.off _ (by omega)).trans h16, (g.off _ (by omega)).trans h17, (g.off _ (by omega)).trans h18, (g.off _ (by omega)).trans h19, (g.off _ (by omega)).trans h20, (g.off _ (by omega)).trans h21⟩
theorem segA {C : Cn} (K : K02 C) (ns : List Int) : ∃ (e : Env) (tp : T) (x y z : Nat) (A B D : List (List Rat)), (∀ r, exs C (.cons q1 (.cons q2 (.cons q3 r))) (startE 38 [.scr ns]) = exs C r e) ∧ Ba e x y z A B D ∧ gt e 1 = some tp ∧ Tape tp := by
  obtain ⟨e0, he0⟩ : ∃ e0, e0 = startE 38 [.scr ns] := ⟨_, rfl⟩
  have l0 : e0.length = 38 := by rw [he0]; rfl
  have g0 : gt e0 0 = some (.scr ns) := by rw [he0]; rfl
  have gn : ∀ j, 1 ≤ j → gt e0 j = none := by
    intro j hj
    rw [he0]
    show ((some (T.scr ns) :: List.replicate 37 none)[j]?).join = none
    obtain ⟨j, rfl⟩ : ∃ i, j = i + 1 := ⟨j - 1, by omega⟩
    rw [List.getElem?_cons_succ, List.getElem?_replicate]
    split <;> rfl
  rw [← he0]
  have v1 : ev C (.lst (.cons (.primv .list 0) (.cons (.int 0) (.cons (.int 0) (.cons (.int 2) .nil))))) e0 = .ok (tpe ns 0 0 2) e0 := by
    have p1 : Iv.prim .list (.scr ns) = some (.lst true (ns.map .int)) := rfl
    have p2 : frz (.lst true (ns.map T.int)) = .lst false (ns.map .int) := by
      show T.lst false (frzs _) = _
      rw [frzs_of _ (isFs_nsI ns)]
    have p3 : evs C (.cons (.primv .list 0) (.cons (.int 0) (.cons (.int 0) (.cons (.int 2) .nil)))) e0 = .ok [.lst true (ns.map .int), .int 0, .int 0, .int 2] e0 := by
      simp [g0, p1]
    rw [ev_lstX p3]
    show R.ok (T.lst true [frz (.lst true (ns.map T.int)), .int 0, .int 0, .int 2]) e0 = _
    rw [p2]; rfl
  obtain ⟨e1, s1, x1⟩ := asgX (k := 1) K.io v1 (by rw [l0]; decide)
  have l1 : e1.length = 38 := x1.len.trans l0
  obtain ⟨a, tp1, e2, ha, t1, x2, v2⟩ := ev_nx K.nx (a := .int 4) (k := 4) x1.on (by rw [l1]; decide) ⟨ns, 0, 0, 2, rfl, by decide, by decide⟩ (by decide) (by decide) rfl
  have l2 : e2.length = 38 := x2.len.trans l1
  obtain ⟨b, tp2, e3, hb, t2, x3, v3⟩ := ev_nx K.nx (a := .int 4) (k := 4) x2.on (by rw [l2]; decide) t1 (by decide) (by decide) rfl
  have l3 : e3.length = 38 := x3.len.trans l2
  obtain ⟨c, tp3, e4, hc, t3, x4, v4⟩ := ev_nx K.nx (a := .int 3) (k := 3) x3.on (by rw [l3]; decide) t2 (by decide) (by decide) rfl
  have l4 : e4.length = 38 := x4.len.trans l3
  obtain ⟨e5, e6, e7, s2, x5, x6, x7⟩ := ex_tp3 (a := 21) (b := 22) (c := 23) K.io (evs3 (ev_inc v2) (ev_inc v3) (ev_inc v4)) (by rw [l4]; decide) (by rw [l4]; decide) (by rw [l4]; decide)
  have l7 : e7.length = 38 := x7.len.trans (x6.len.trans (x5.len.trans l4))
  have g21 : gt e7 21 = some (.int (a + 1 : Nat)) := x7.k (x6.k x5.on)
  have g22 : gt e7 22 = some (.int (b + 1 : Nat)) := x7.k x6.on
  have g23 : gt e7 23 = some (.int (c + 1 : Nat)) := x7.on
  have g1 : gt e7 1 = some tp3 := x7.k (x6.k (x5.k x4.on))
  obtain ⟨A, tp4, e8, sA, wA, t4, x8, v8⟩ := ev_tb K.tb (x := .var 21) (y := .var 22) g1 (by rw [l7]; decide) t3 (by omega) (by omega) (ev_vi g21) (ev_vi g22)
  have l8 : e8.length = 38 := x8.len.trans l7
  obtain ⟨B, tp5, e9, sB, wB, t5, x9, v9⟩ := ev_tb K.tb (x := .var 21) (y := .var 22) x8.on (by rw [l8]; decide) t4 (by omega) (by omega) (ev_vi (x8.k g21)) (ev_vi (x8.k g22))
  have l9 : e9.length = 38 := x9.len.trans l8
  obtain ⟨D, tp6, e10, sD, wD, t6, x10, v10⟩ := ev_tb K.tb (x := .var 22) (y := .var 23) x9.on (by rw [l9]; decide) t5 (by omega) (by omega) (ev_vi (x9.k (x8.k g22))) (ev_vi (x9.k (x8.k g23)))
  have l10 : e10.length = 38 := x10.len.trans l9
  obtain ⟨e11, e12, e13, s3, x11, x12, x13⟩ := ex_tp3 (a := 24) (b := 25) (c := 26) K.io (evs3 v8 v9 v10) (by rw [l10]; decide) (by rw [l10]; decide) (by rw [l10]; decide)
  have l13 : e13.length = 38 := x13.len.trans (x12.len.trans (x11.len.trans l10))
  have keep : ∀ j, j ≠ 1 → j ≠ 24 → j ≠ 25 → j ≠ 26 → gt e13 j = gt e7 j := fun j h1 h2 h3 h4 => by
    rw [x13.off j h4, x12.off j h3, x11.off j h2, x10.off j h1, x9.off j h1, x8.off j h1]
  have keep2 : ∀ j, j ≠ 1 → j ≠ 21 → j ≠ 22 → j ≠ 23 → gt e7 j = gt e0 j := fun j h1 h2 h3 h4 => by
    rw [x7.off j h4, x6.off j h3, x5.off j h2, x4.off j h1, x3.off j h1, x2.off j h1, x1.off j h1]
  refine ⟨e13, tp6, a + 1, b + 1, c + 1, A, B, D, fun r => ?_, ⟨l13, fun j hj => ?_, by omega, by omega, by omega, by omega, by omega, by omega, sA, sB, sD, wA, wB, wD, ?_, ?_, ?_, ?_, x13.k (x12.k x11.on), x13.k x12.on, x13.on⟩, x13.k (x12.k (x11.k x10.on)), t6⟩
  · have s1 : ex C q1 e0 = .ok .nx e1 := s1
    have s2 : ex C q2 e1 = .ok .nx e7 := s2
    have s3 : ex C q3 e7 = .ok .nx e13 := s3
    rw [exs_nx s1, exs_nx s2, exs_nx s3]
  · rw [keep j (by omega) (by omega) (by omega) (by omega), keep2 j (by omega) (by omega) (by omega) (by omega), gn j (by omega)]
  · rw [keep 17 (by decide) (by decide) (by decide) (by decide), keep2 17 (by decide) (by decide) (by decide) (by decide), gn 17 (by decide)]
    intro t ht; cases ht
  · rw [keep 21 (by decide) (by decide) (by decide) (by decide), g21]
  · rw [keep 22 (by decide) (by decide) (by decide) (by decide), g22]
  · rw [keep 23 (by decide) (by decide) (by decide) (by decide), g23]
end Iv
set_option Elab.async false
set_option linter.all false
set_option maxRecDepth 100000
set_option exponentiation.threshold 20000
namespace Iv
open PySem Q02
theorem prod_at {m n : List (List Rat)} {c i : Nat} (h : i < m.length) : (prod m n c).getD i [] = rowT (m.getD i []) n c := by
  unfold prod
  rw [List.getD_eq_getElem?_getD, List.getElem?_map, List.getD_eq_getElem?_getD, List.getElem?_eq_getElem h]; rfl
theorem Ba.zA {e : Env} {x y z : Nat} {A B D : List (List Rat)} (h : Ba e x y z A B D) : A.length ≤ 1000 := by rw [h.sA.1]; have := h.x4; omega
theorem segB {C : Cn} (K : K02 C) {e : Env} {x y z : Nat} {A B D : List (List Rat)} {tp : T} (b : Ba e x y z A B D) (h1 : gt e 1 = some tp) :
    ∃ e', (∀ r, exs C (.cons q4 (.cons q5 (.cons q6 (.cons q7 r)))) e = exs C r e') ∧ Ba e' x y z A B D ∧ gt e' 1 = some tp := by
  have hsz : SZ = 16777216 := rfl
  have hio := K.io
  have ⟨x0, x4, y0, y4, z0, z4⟩ := (⟨b.x0, b.x4, b.y0, b.y4, b.z0, b.z4⟩ : 0 < x ∧ x ≤ 4 ∧ 0 < y ∧ y ≤ 4 ∧ 0 < z ∧ z ≤ 4)
  have hAl : A.length = x := b.sA.1
  -- turned
  have v1 : ev C (.prim .tuple (.lc [32] (.nm 32) (.rg1 (.var 22)) .non (.prim .tuple (.lc [36] (.nm 36) (.seq (.var 24)) .non (.ix 36 (.var 32)))))) e = .ok (tab (turned A y)) e := by
    refine tupT (g := fun k => col k A) (cR hio _ (ev_vi b.h22) (by rw [b.len]; decide) (own_none (b.nn 32 (by decide))) (by omega) fun k hk e' g => ?_)
    refine tupQ (g := fun r => r.getD k 0) (cA frs hio _ (srs_tab (g.k b.h24)) (by rw [g.len, b.len]; decide) (own_none (g.k (b.nn 36 (by decide)))) (by omega) fun r hr e'' g2 => ?_)
    exact ev_ixQ g2.on (ev_vi (g2.k g.on)) (by rw [b.sA.2 r hr]; exact hk)
  obtain ⟨e1, s1, x1⟩ := asgX (k := 2) hio v1 (by rw [b.len]; decide)
  have b1 := b.ext x1 (by decide)
  -- told
  have sumR := b.sA.sums b.wA (by omega : 1 + y * (4 + 1) ≤ 4000)
  have sumC := b.sA.colSums b.wA (by omega : 1 + x * (4 + 1) ≤ 4000)
  have c1 := K.rs A (by omega) sumR
  have c2 := K.cs A y (by omega) (by omega) (fun r hr => by rw [b.sA.2 r hr]; exact Nat.le_refl _) sumC
  have c3 := K.tu A y (by omega) (by omega) (fun r hr => by rw [b.sA.2 r hr]; exact Nat.le_refl _)
  have c4 := K.tt x y z 4 4 A D b.sA b.sD b.wA b.wD (by omega) (by omega) y0 (by omega) (by omega)
  have c5 := K.tr y z 4 4 (A.getD 0 []) D (b.sA.row x0) b.sD (b.wA.row b.sA x0) b.wD (by omega) y0 (by omega) (by omega)
  have k1 : ev C (.call 15 (.cons (.var 24) .nil)) e1 = .ok (frs (rowSums A)) e1 := ev_c1 (ev_v b1.h24 (isF_tab A)) (by rw [frz_tab]; exact c1)
  have k2 : ev C (.call 16 (.cons (.var 24) (.cons (.var 22) .nil))) e1 = .ok (frs (rowSums (turned A y))) e1 := ev_c2 (ev_v b1.h24 (isF_tab A)) (ev_vi b1.h22) (isF_tab A) rfl c2
  have k3 : ev C (.call 19 (.cons (.var 24) (.cons (.var 22) .nil))) e1 = .ok (tab (turned A y)) e1 := ev_c2 (ev_v b1.h24 (isF_tab A)) (ev_vi b1.h22) (isF_tab A) rfl c3
  have k4 : ev C (.call 20 (.cons (.var 24) (.cons (.var 26) .nil))) e1 = .ok (tab (prod A D z)) e1 := ev_c2 (ev_v b1.h24 (isF_tab A)) (ev_v b1.h26 (isF_tab D)) (isF_tab A) (isF_tab D) c4
  have k5 : ev C (.call 21 (.cons (.ix 24 (.int 0)) (.cons (.var 26) .nil))) e1 = .ok (frs (rowT (A.getD 0 []) D z)) e1 := ev_c2 (ev_ixT (k := 0) b1.h24 rfl (by omega)) (ev_v b1.h26 (isF_tab D)) (isF_frs _) (isF_tab D) c5
  obtain ⟨V, hV⟩ : ∃ V, V = [frs (rowSums A), frs (rowSums (turned A y)), tab (turned A y), tab (prod A D z), frs (rowT (A.getD 0 []) D z)] := ⟨_, rfl⟩
  have hVF : isFs V = true := by rw [hV]; simp [isFs]
  have k6 := ev_lstX (evsC k1 (evsC k2 (evsC k3 (evsC k4 (evsC k5 (x_evs_nil (C := C) (e := e1)))))))
  rw [← hV, frzs_of V hVF] at k6
  obtain ⟨e2, s2, x2⟩ := asgX (k := 3) hio k6 (by rw [b1.len]; decide)
  have b2 := b1.ext x2 (by decide)
  -- the product
  have c6 := K.lp x y z 4 4 A D b.sA b.sD b.wA b.wD (by omega) (by omega) y0 (by omega) (by omega)
  have k7 : ev C (.call 49 (.cons (.var 24) (.cons (.var 26) (.cons (.var 23) .nil)))) e2 = .ok (tab (prod A D z)) e2 := ev_c3 (ev_v b2.h24 (isF_tab A)) (ev_v b2.h26 (isF_tab D)) (ev_vi b2.h23) (isF_tab A) (isF_tab D) rfl c6
  obtain ⟨e3, s3, x3⟩ := asgX (k := 4) hio k7 (by rw [b2.len]; decide)
  have b3 := b2.ext x3 (by decide)
  -- the same
  have g3 : gt e3 3 = some (.lst true V) := x3.k x2.on
  obtain ⟨e4, he4⟩ : ∃ e4, e4 = e3.set 3 (some (.lst false V)) := ⟨_, rfl⟩
  have x4 : Ext e3 e4 3 (.lst false V) := by rw [he4]; exact Ext.of _ (by rw [b3.len]; decide)
  have rd : ev C (.var 3) e3 = .ok (.lst false V) e4 := by rw [he4, x_ev_var]; exact rd_O g3 hVF
  have b4 := b3.ext x4 (by decide)
  have g2 : gt e4 2 = some (tab (turned A y)) := x4.k (x3.k (x2.k x1.on))
  have g4 : gt e4 4 = some (tab (prod A D z)) := x4.k x3.on
  have m1 : ev C (.prim .tuple (.lc [36] (.nm 36) (.seq (.var 24)) .non (.call 41 (.cons (.var 36) .nil)))) e4 = .ok (frs (rowSums A)) e4 := by
    refine tupQ (g := tot) (cA frs hio _ (srs_tab b4.h24) (by rw [b4.len]; decide) (own_none (b4.nn 36 (by decide))) (by omega) fun r hr e' g => ?_)
    exact ev_c1 (ev_v g.on (isF_frs r)) (by rw [frz_frs]; exact K.to r (frs r) (.inr rfl) (sumR r hr).1 (sumR r hr).2)
  have m2 : ev C (.prim .tuple (.lc [36] (.nm 36) (.seq (.var 2)) .non (.call 41 (.cons (.var 36) .nil)))) e4 = .ok (frs (rowSums (turned A y))) e4 := by
    refine tupQ (g := tot) (cA frs hio _ (srs_tab g2) (by rw [b4.len]; decide) (own_none (b4.nn 36 (by decide))) (by rw [turned_len]; omega) fun r hr e' g => ?_)
    obtain ⟨k, hk, rfl⟩ := List.mem_map.mp hr
    have hk := List.mem_range.mp hk
    exact ev_c1 (ev_v g.on (isF_frs _)) (by rw [frz_frs]; exact K.to _ _ (.inr rfl) (sumC k hk).1 (sumC k hk).2)
  have m5 : ev C (.ix 4 (.int 0)) e4 = .ok (frs (rowT (A.getD 0 []) D z)) e4 := by
    have := ev_ixT (C := C) (k := 0) (x := .int 0) g4 rfl (by unfold prod; rw [List.length_map]; omega)
    rwa [prod_at (by omega)] at this
  have m6 := ev_lstX (evsC m1 (evsC m2 (evsC (ev_v (C := C) g2 (isF_tab _)) (evsC (ev_v (C := C) g4 (isF_tab _)) (evsC m5 (x_evs_nil (C := C) (e := e4)))))))
  rw [← hV, frzs_of V hVF] at m6
  have wT : TW 4 (turned A y) := fun r hr q hq => by
    obtain ⟨k, hk, rfl⟩ := List.mem_map.mp hr
    exact b.wA.col b.sA (List.mem_range.mp hk) q hq
  have wP := prod_wt b.wA b.sA b.wD b.sD
  have hVl : Vl 10 (.lst false V) := by
    refine (Vl_lst (k := 3) (fun t ht => ?_) (by rw [hV]; simp)).mono (by decide)
    rw [hV] at ht
    simp only [List.mem_cons, List.not_mem_nil, or_false] at ht
    rcases ht with rfl | rfl | rfl | rfl | rfl
    · refine (Vl_frs (fun q hq => ?_) (by simp [rowSums]; omega)).mono (by decide)
      obtain ⟨r, hr, rfl⟩ := List.mem_map.mp hq
      exact (sumR r hr).1.self
    · refine (Vl_frs (fun q hq => ?_) (by unfold rowSums; rw [List.length_map, turned_len]; omega)).mono (by decide)
      obtain ⟨r, hr, rfl⟩ := List.mem_map.mp hq
      obtain ⟨k, hk, rfl⟩ := List.mem_map.mp hr
      exact (sumC k (List.mem_range.mp hk)).1.self
    · exact Vl_tab (fun r hr => ⟨fun q hq => (wT r hr q hq).mono (by decide), by
        obtain ⟨k, hk, rfl⟩ := List.mem_map.mp hr
        rw [col_len]; omega⟩) (by rw [turned_len]; omega)
    · exact Vl_tab (fun r hr => ⟨fun q hq => (wP r hr q hq).mono (by omega), by rw [b.sA.prod.2 r hr]; omega⟩) (by rw [(b.sA.prod (n := D) (c := z)).1]; omega)
    · refine (Vl_frs (fun q hq => ?_) (by rw [rowT_len]; omega)).mono (by decide)
      exact (rowT_wt (b.wA.row b.sA x0) (b.sA.row x0) b.wD b.sD q hq).mono (by omega)
  have s4 := same_if K.sm rd m6 (frz_lstO hVF false) (frz_lstO hVF true) hVl
  refine ⟨e4, fun r => ?_, b4, x4.k (x3.k (x2.k (x1.k h1)))⟩
  have s1 : ex C q4 e = .ok .nx e1 := s1
  have s2 : ex C q5 e1 = .ok .nx e2 := s2
  have s3 : ex C q6 e2 = .ok .nx e3 := s3
  have s4 : ex C q7 e3 = .ok .nx e4 := s4
  rw [exs_nx s1, exs_nx s2, exs_nx s3, exs_nx s4]
end Iv
set_option Elab.async false
set_option linter.all false
set_option maxRecDepth 100000
set_option exponentiation.threshold 20000
namespace Iv
open PySem Q02
theorem map_getD {α β : Type} (f : α → β) (d : α) (l : List α) : l.map f = (List.range l.length).map fun i => f (l.getD i d) := by
  refine List.ext_getElem (by simp) fun i h1 h2 => ?_
  have h : i < l.length := by simpa using h1
  rw [List.getElem_map, List.getElem_map, List.getElem_range, List.getD_eq_getElem?_getD, List.getElem?_eq_getElem h]; rfl
theorem sumT_eq {x y : Nat} {A B : List (List Rat)} (hA : Shp x y A) (hB : Shp x y B) : sumT A B = (List.range x).map fun i => (List.range y).map fun j => (A.getD i []).getD j 0 + (B.getD i []).getD j 0 := by
  unfold sumT
  refine List.ext_getElem (by simp [hA.1, hB.1]) fun i h1 h2 => ?_
  have hi : i < x := by simpa using h2
  have ha : i < A.length := by rw [hA.1]; exact hi
  have hb : i < B.length := by rw [hB.1]; exact hi
  have la := hA.row hi
  have lb := hB.row hi
  rw [List.getElem_map, List.getElem_map, List.getElem_range, List.getElem_zip]
  have ea : A[i] = A.getD i [] := by rw [List.getD_eq_getElem?_getD, List.getElem?_eq_getElem ha]; rfl
  have eb : B[i] = B.getD i [] := by rw [List.getD_eq_getElem?_getD, List.getElem?_eq_getElem hb]; rfl
  rw [ea, eb]
  generalize A.getD i [] = a at *
  generalize B.getD i [] = b at *
  refine List.ext_getElem (by simp [la, lb]) fun j h3 h4 => ?_
  have hj : j < y := by simpa using h4
  have ja : j < a.length := by omega
  have jb : j < b.length := by omega
  rw [List.getElem_map, List.getElem_map, List.getElem_range, List.getElem_zip]
  rw [List.getD_eq_getElem?_getD, List.getElem?_eq_getElem ja, List.getD_eq_getElem?_getD, List.getElem?_eq_getElem jb]; rfl
theorem ev_cell {C : Cn} {e : Env} {i : Nat} {x y : E} {m : List (List Rat)} {k j : Nat} (h : gt e i = some (tab m)) (hx : ev C x e = .ok (.int k) e) (hy : ev C y e = .ok (.int j) e) (hk : k < m.length) (hj : j < (m.getD k []).length) : ev C (.idx (.ix i x) y) e = .ok (fr ((m.getD k []).getD j 0)) e := ev_idQ (ev_ixT h hx hk) hy hj
theorem segC {C : Cn} (K : K02 C) {e : Env} {x y z : Nat} {A B D : List (List Rat)} {tp : T} (b : Ba e x y z A B D) (h1 : gt e 1 = some tp) (ht : Tape tp) :
    ∃ e' tp', (∀ r, exs C (.cons q8 (.cons q9 (.cons q10 (.cons q11 (.cons q12 r))))) e = exs C r e') ∧ Ba e' x y z A B D ∧ gt e' 1 = some tp' ∧ Tape tp' := by
  have hsz : SZ = 16777216 := rfl
  have hio := K.io
  have ⟨x0, x4, y0, y4, z0, z4⟩ := (⟨b.x0, b.x4, b.y0, b.y4, b.z0, b.z4⟩ : 0 < x ∧ x ≤ 4 ∧ 0 < y ∧ y ≤ 4 ∧ 0 < z ∧ z ≤ 4)
  have hAl : A.length = x := b.sA.1
  have hBl : B.length = x := b.sB.1
  have cA : ∀ i j, i < x → j < y → Wt 4 ((A.getD i []).getD j 0) := fun i j hi hj => b.wA.at b.sA hi hj
  have cB : ∀ i j, i < x → j < y → Wt 4 ((B.getD i []).getD j 0) := fun i j hi hj => b.wB.at b.sB hi hj
  -- both
  have v1 : ev C (.prim .tuple (.lc [17] (.nm 17) (.rg1 (.var 21)) .non (.prim .tuple (.lc [33] (.nm 33) (.rg1 (.var 22)) .non (.call 37 (.cons (.idx (.ix 24 (.var 17)) (.var 33)) (.cons (.idx (.ix 25 (.var 17)) (.var 33)) .nil))))))) e = .ok (tab (sumT A B)) e := by
    rw [sumT_eq b.sA b.sB]
    refine tupT (g := fun i => (List.range y).map fun j => (A.getD i []).getD j 0 + (B.getD i []).getD j 0) (cR hio _ (ev_vi b.h21) (by rw [b.len]; decide) (ownO b.h17) (by omega) fun i hi e' g => ?_)
    refine tupQ (g := fun j => (A.getD i []).getD j 0 + (B.getD i []).getD j 0) (cR hio _ (ev_vi (g.k b.h22)) (by rw [g.len, b.len]; decide) (own_none (g.k (b.nn 33 (by decide)))) (by omega) fun j hj e'' g2 => ?_)
    have i1 := ev_vi (C := C) (g2.k g.on)
    have j1 := ev_vi (C := C) g2.on
    exact ev_c2 (ev_cell (g2.k (g.k b.h24)) i1 j1 (by omega) (by rw [b.sA.row hi]; exact hj)) (ev_cell (g2.k (g.k b.h25)) i1 j1 (by omega) (by rw [b.sB.row hi]; exact hj)) (isF_fr _) (isF_fr _) (K.pl _ _ ((cA i j hi hj).mono (by decide)) ((cB i j hi hj).mono (by decide)))
  obtain ⟨e1, s1, x1⟩ := asgX (k := 5) hio v1 (by rw [b.len]; decide)
  have b1 := b.ext x1 (by decide)
  -- dots
  have dl : ∀ i, i < x → (dot (A.getD i []) (B.getD i [])).length = y := fun i hi => by rw [dot_len, b.sA.row hi]
  have dw : ∀ i, i < x → ∀ q ∈ dot (A.getD i []) (B.getD i []), Wt (4 + 4) q := fun i hi => dot_wt (by rw [b.sA.row hi, b.sB.row hi]; exact Nat.le_refl _) (b.wA.row b.sA hi) (b.wB.row b.sB hi)
  have ds : ∀ i, i < x → SumOk (dot (A.getD i []) (B.getD i [])) ∧ ∀ q ∈ dot (A.getD i []) (B.getD i []), Sm q := fun i hi => SumOk.of (dw i hi) (by rw [dl i hi]; omega)
  have hdots : dots A B = (List.range x).map fun k => tot (dot (A.getD k []) (B.getD k [])) := by unfold dots; rw [hAl]
  have v2 : ev C (.lc [17] (.nm 17) (.rg1 (.var 21)) .non (.call 41 (.cons (.lc [33] (.nm 33) (.rg1 (.var 22)) .non (.call 40 (.cons (.idx (.ix 24 (.var 17)) (.var 33)) (.cons (.idx (.ix 25 (.var 17)) (.var 33)) .nil)))) .nil))) e1 = .ok (.lst true ((dots A B).map fr)) e1 := by
    have h : ev C (.lc [17] (.nm 17) (.rg1 (.var 21)) .non (.call 41 (.cons (.lc [33] (.nm 33) (.rg1 (.var 22)) .non (.call 40 (.cons (.idx (.ix 24 (.var 17)) (.var 33)) (.cons (.idx (.ix 25 (.var 17)) (.var 33)) .nil)))) .nil))) e1 = .ok (.lst true ((List.range x).map fun i => fr (tot (dot (A.getD i []) (B.getD i []))))) e1 := by
      refine cR hio _ (ev_vi b1.h21) (by rw [b1.len]; decide) (ownO b1.h17) (by omega) fun i hi e' g => ?_
      have hin : ev C (.lc [33] (.nm 33) (.rg1 (.var 22)) .non (.call 40 (.cons (.idx (.ix 24 (.var 17)) (.var 33)) (.cons (.idx (.ix 25 (.var 17)) (.var 33)) .nil)))) e' = .ok (.lst true ((List.range y).map fun j => fr ((A.getD i []).getD j 0 * (B.getD i []).getD j 0))) e' := by
        refine cR hio _ (ev_vi (g.k b1.h22)) (by rw [g.len, b1.len]; decide) (own_none (g.k (b1.nn 33 (by decide)))) (by omega) fun j hj e'' g2 => ?_
        have i1 := ev_vi (C := C) (g2.k g.on)
        have j1 := ev_vi (C := C) g2.on
        exact ev_c2 (ev_cell (g2.k (g.k b1.h24)) i1 j1 (by omega) (by rw [b.sA.row hi]; exact hj)) (ev_cell (g2.k (g.k b1.h25)) i1 j1 (by omega) (by rw [b.sB.row hi]; exact hj)) (isF_fr _) (isF_fr _) (K.ti _ _ ((cA i j hi hj).mono (by decide)) ((cB i j hi hj).mono (by decide)))
      have hd : dot (A.getD i []) (B.getD i []) = (List.range y).map fun j => (A.getD i []).getD j 0 * (B.getD i []).getD j 0 := by unfold dot; rw [b.sA.row hi]
      have hc := K.to (dot (A.getD i []) (B.getD i [])) _ (.inl rfl) (ds i hi).1 (ds i hi).2
      exact ev_l1 (l := []) hin (by rw [← hd]; exact hc)
    rw [h, hdots, List.map_map]; rfl
  obtain ⟨e2, s2, x2⟩ := asgX (k := 6) hio v2 (by rw [b1.len]; decide)
  have b2 := b1.ext x2 (by decide)
  have g1 : gt e2 1 = some tp := x2.k (x1.k h1)
  -- the scale
  obtain ⟨r, tp1, e3, hr, t1, x3, v3⟩ := ev_nx K.nx (a := .int 7) (k := 7) g1 (by rw [b2.len]; decide) ht (by decide) (by decide) rfl
  have b3 := b2.ext x3 (by decide)
  obtain ⟨s, hs⟩ : ∃ s, s = Rat.divInt ((r : Int) - 3) 2 := ⟨_, rfl⟩
  have ws : Wt 4 s := by rw [hs]; exact Wt.divInt (by decide) (by omega) (by decide)
  have v4 : ev C (.call 36 (.cons (.bin .sub (.cio 34 1 (.cons (.int 7) .nil)) (.int 3)) (.cons (.int 2) .nil))) e2 = .ok (fr s) e3 := by
    have hc := K.le ((r : Int) - 3) 2 (by decide) (Nat.lt_of_lt_of_le (by omega : _ < 2 ^ 4) (Nat.pow_le_pow_right (by decide) (by decide))) (Nat.lt_of_lt_of_le (by decide : _ < 2 ^ 4) (Nat.pow_le_pow_right (by decide) (by decide)))
    rw [← hs] at hc
    rw [x_ev_call, x_evs_cons, x_ev_bin, v3, R.bind_ok, x_ev_int, R.bind_ok, bin_sub_i, R.of_some, R.bind_ok, x_evs_cons, x_ev_int, R.bind_ok, x_evs_nil, R.bind_ok, R.bind_ok]
    show crR (C.call 36 [.int ((r : Int) - 3), .int 2]) _ = _
    rw [hc]; rfl
  obtain ⟨e4, s4, x4⟩ := asgX (k := 7) hio v4 (by rw [b3.len]; decide)
  have b4 := b3.ext x4 (by decide)
  -- told
  have wDots : ∀ q ∈ dots A B, Wt (1 + y * (4 + 4 + 1)) q := fun q hq => by
    rw [hdots] at hq
    obtain ⟨k, hk, rfl⟩ := List.mem_map.mp hq
    have hk := List.mem_range.mp hk
    have := Wt.tot (dw k hk)
    rwa [dl k hk] at this
  have lDots : (dots A B).length = x := by rw [hdots]; simp
  have sDots : SumOk (dots A B) ∧ ∀ q ∈ dots A B, Sm q := SumOk.of (fun q hq => (wDots q hq).mono (by omega : _ ≤ 37)) (by rw [lDots]; omega)
  have c1 := K.st A B (by omega) (fun r hr => by rw [b.sA.2 r hr]; omega) (fun r hr q hq => (b.wA r hr q hq).mono (by decide)) (fun r hr q hq => (b.wB r hr q hq).mono (by decide))
  have c2 := K.dt (A.getD 0 []) (B.getD 0 []) (by rw [b.sA.row x0]; omega) (by rw [b.sA.row x0, b.sB.row x0]; exact Nat.le_refl _) (fun q hq => (b.wA.row b.sA x0 q hq).mono (by decide)) (fun q hq => (b.wB.row b.sB x0 q hq).mono (by decide)) (ds 0 x0).1 (ds 0 x0).2
  have c3 := K.dtt A B (by omega) (by omega) (fun k hk => by
    have hk : k < x := by omega
    exact ⟨by rw [b.sA.row hk]; omega, by rw [b.sA.row hk, b.sB.row hk]; exact Nat.le_refl _, fun q hq => (b.wA.row b.sA hk q hq).mono (by decide), fun q hq => (b.wB.row b.sB hk q hq).mono (by decide), (ds k hk).1, (ds k hk).2⟩) sDots.1 sDots.2
  have c4 := K.sc A s (by omega) (fun r hr => by rw [b.sA.2 r hr]; omega) (fun r hr q hq => (b.wA r hr q hq).mono (by decide)) (ws.mono (by decide))
  have k1 : ev C (.call 32 (.cons (.var 24) (.cons (.var 25) .nil))) e4 = .ok (tab (sumT A B)) e4 := ev_c2 (ev_v b4.h24 (isF_tab A)) (ev_v b4.h25 (isF_tab B)) (isF_tab A) (isF_tab B) c1
  have k2 : ev C (.call 22 (.cons (.ix 24 (.int 0)) (.cons (.ix 25 (.int 0)) .nil))) e4 = .ok (fr (tot (dot (A.getD 0 []) (B.getD 0 [])))) e4 := ev_c2 (ev_ixT (k := 0) b4.h24 rfl (by omega)) (ev_ixT (k := 0) b4.h25 rfl (by omega)) (isF_frs _) (isF_frs _) c2
  have k3 : ev C (.call 23 (.cons (.var 24) (.cons (.var 25) .nil))) e4 = .ok (fr (tot (dots A B))) e4 := ev_c2 (ev_v b4.h24 (isF_tab A)) (ev_v b4.h25 (isF_tab B)) (isF_tab A) (isF_tab B) c3
  have g7 : gt e4 7 = some (fr s) := x4.on
  have k4 : ev C (.call 33 (.cons (.var 24) (.cons (.var 7) .nil))) e4 = .ok (tab (scaled A s)) e4 := ev_c2 (ev_v b4.h24 (isF_tab A)) (ev_v g7 (isF_fr s)) (isF_tab A) (isF_fr s) c4
  obtain ⟨d0, hd0⟩ : ∃ d0, d0 = tot (dot (A.getD 0 []) (B.getD 0 [])) := ⟨_, rfl⟩
  obtain ⟨dd, hdd⟩ : ∃ dd, dd = tot (dots A B) := ⟨_, rfl⟩
  rw [← hd0] at k2
  rw [← hdd] at k3
  obtain ⟨V, hV⟩ : ∃ V, V = [tab (sumT A B), fr d0, fr dd, tab (scaled A s)] := ⟨_, rfl⟩
  have hVF : isFs V = true := by rw [hV]; simp [isFs]
  have k6 := ev_lstX (evsC k1 (evsC k2 (evsC k3 (evsC k4 (x_evs_nil (C := C) (e := e4))))))
  rw [← hV, frzs_of V hVF] at k6
  obtain ⟨e5, s5, x5⟩ := asgX (k := 3) hio k6 (by rw [b4.len]; decide)
  have b5 := b4.ext x5 (by decide)
  -- the same
  have g3 : gt e5 3 = some (.lst true V) := x5.on
  obtain ⟨e6, he6⟩ : ∃ e6, e6 = e5.set 3 (some (.lst false V)) := ⟨_, rfl⟩
  have x6 : Ext e5 e6 3 (.lst false V) := by rw [he6]; exact Ext.of _ (by rw [b5.len]; decide)
  have rd : ev C (.var 3) e5 = .ok (.lst false V) e6 := by rw [he6, x_ev_var]; exact rd_O g3 hVF
  have b6 := b5.ext x6 (by decide)
  have y5 : gt e6 5 = some (tab (sumT A B)) := x6.k (x5.k (x4.k (x3.k (x2.k x1.on))))
  have y6 : gt e6 6 = some (.lst true ((dots A B).map fr)) := x6.k (x5.k (x4.k (x3.k x2.on)))
  have m2 : ev C (.ix 6 (.int 0)) e6 = .ok (fr d0) e6 := by
    have ha : at_ (.lst true ((dots A B).map fr)) (.int 0) = some (fr d0) := by
      have h0 : 0 < ((dots A B).map fr).length := by rw [List.length_map, lDots]; exact x0
      have := at_lst (o := true) h0
      rw [show ((0 : Nat) : Int) = 0 from rfl] at this
      rw [this, List.getElem_map]
      congr 2
      rw [hd0]
      have : (dots A B)[0]'(by rw [lDots]; exact x0) = (dots A B).getD 0 0 := by rw [List.getD_eq_getElem?_getD, List.getElem?_eq_getElem]; rfl
      rw [this, hdots, List.getD_eq_getElem?_getD, List.getElem?_map, List.getElem?_range x0]; rfl
    rw [x_ev_ix, has, y6, x_ev_int, R.bind_ok, y6]
    simp only [ha, fz_fr]
  obtain ⟨e7, he7⟩ : ∃ e7, e7 = e6.set 6 (some (.lst false ((dots A B).map fr))) := ⟨_, rfl⟩
  have x7 : Ext e6 e7 6 (.lst false ((dots A B).map fr)) := by rw [he7]; exact Ext.of _ (by rw [b6.len]; decide)
  have b7 := b6.ext x7 (by decide)
  have m3 : ev C (.call 41 (.cons (.var 6) .nil)) e6 = .ok (fr dd) e7 := by
    have hc := K.to (dots A B) _ (.inl rfl) sDots.1 sDots.2
    have rd6 : ev C (.var 6) e6 = .ok (.lst false ((dots A B).map fr)) e7 := by rw [he7, x_ev_var]; exact rd_O y6 (isFs_frs _)
    rw [x_ev_call, x_evs_cons, rd6, R.bind_ok, x_evs_nil, R.bind_ok, R.bind_ok]
    show crR (C.call 41 [.lst false (frzs ((dots A B).map fr))]) e7 = _
    rw [frzs_frl, hc, hdd]; rfl
  have y7 : gt e7 7 = some (fr s) := x7.k (x6.k (x5.k g7))
  have m4 : ev C (.prim .tuple (.lc [36] (.nm 36) (.seq (.var 24)) .non (.prim .tuple (.lc [35] (.nm 35) (.seq (.var 36)) .non (.call 40 (.cons (.var 35) (.cons (.var 7) .nil))))))) e7 = .ok (tab (scaled A s)) e7 := by
    refine tupT (g := fun r : List Rat => r.map fun q => q * s) (Iv.cA frs hio _ (srs_tab b7.h24) (by rw [b7.len]; decide) (own_none (b7.nn 36 (by decide))) (by omega) fun r hr e' g => ?_)
    refine tupQ (g := fun q : Rat => q * s) (Iv.cA fr hio _ (srs_frs g.on) (by rw [g.len, b7.len]; decide) (own_none (g.k (b7.nn 35 (by decide)))) (by rw [b.sA.2 r hr]; omega) fun q hq e'' g2 => ?_)
    exact ev_c2 (ev_v g2.on (isF_fr q)) (ev_v (g2.k (g.k y7)) (isF_fr s)) (isF_fr q) (isF_fr s) (K.ti _ _ ((b.wA r hr q hq).mono (by decide)) (ws.mono (by decide)))
  have m6 := ev_lstX (evsC (ev_v (C := C) y5 (isF_tab _)) (evsC m2 (evsC m3 (evsC m4 (x_evs_nil (C := C) (e := e7))))))
  rw [← hV, frzs_of V hVF] at m6
  have hVl : Vl 10 (.lst false V) := by
    refine (Vl_lst (k := 3) (fun t ht => ?_) (by rw [hV]; simp)).mono (by decide)
    rw [hV] at ht
    simp only [List.mem_cons, List.not_mem_nil, or_false] at ht
    rcases ht with rfl | rfl | rfl | rfl
    · rw [sumT_eq b.sA b.sB]
      refine Vl_tab (fun r hr => ?_) (by simp; omega)
      obtain ⟨i, hi, rfl⟩ := List.mem_map.mp hr
      refine ⟨fun q hq => ?_, by simp; omega⟩
      obtain ⟨j, hj, rfl⟩ := List.mem_map.mp hq
      exact ((cA i j (List.mem_range.mp hi) (List.mem_range.mp hj)).add (cB i j (List.mem_range.mp hi) (List.mem_range.mp hj))).mono (by decide)
    · rw [hd0]; exact (Vl_fr (ds 0 x0).1.self).mono (by decide)
    · rw [hdd]; exact (Vl_fr sDots.1.self).mono (by decide)
    · refine Vl_tab (fun r hr => ?_) (by simp [scaled]; omega)
      obtain ⟨r', hr', rfl⟩ := List.mem_map.mp hr
      refine ⟨fun q hq => ?_, by rw [List.length_map, b.sA.2 r' hr']; omega⟩
      obtain ⟨q', hq', rfl⟩ := List.mem_map.mp hq
      exact ((b.wA r' hr' q' hq').mul ws).mono (by decide)
  have s6 := same_if K.sm rd m6 (frz_lstO hVF false) (frz_lstO hVF true) hVl
  refine ⟨e7, tp1, fun r => ?_, b7, x7.k (x6.k (x5.k (x4.k x3.on))), t1⟩
  have s1 : ex C q8 e = .ok .nx e1 := s1
  have s2 : ex C q9 e1 = .ok .nx e2 := s2
  have s3 : ex C q10 e2 = .ok .nx e4 := s4
  have s4 : ex C q11 e4 = .ok .nx e5 := s5
  have s5 : ex C q12 e5 = .ok .nx e7 := s6
  rw [exs_nx s1, exs_nx s2, exs_nx s3, exs_nx s4, exs_nx s5]
end Iv
set_option Elab.async false
set_option linter.all false
set_option maxRecDepth 100000
set_option exponentiation.threshold 20000
namespace Iv
open PySem
/-! ### sums over ranges -/
def sumR (n : Nat) (f : Nat → Rat) : Rat := tot ((List.range n).map f)
theorem sumR_zero (f : Nat → Rat) : sumR 0 f = 0 := rfl
theorem sumR_succ (n : Nat) (f : Nat → Rat) : sumR (n + 1) f = sumR n f + f n := by
  unfold sumR
  rw [List.range_succ, List.map_append, List.map_singleton, tot_app]
theorem sumR_add (n : Nat) (f g : Nat → Rat) : sumR n (fun i => f i + g i) = sumR n f + sumR n g := by
  induction n with
  | zero => rw [sumR_zero, sumR_zero, sumR_zero, Rat.add_zero]
  | succ n ih => rw [sumR_succ, sumR_succ, sumR_succ, ih]; grind
theorem sumR_mul (n : Nat) (c : Rat) (f : Nat → Rat) : sumR n (fun i => c * f i) = c * sumR n f := by
  induction n with
  | zero => rw [sumR_zero, sumR_zero, Rat.mul_zero]
  | succ n ih => rw [sumR_succ, sumR_succ, ih, Rat.mul_add]
theorem sumR_const0 (n : Nat) : sumR n (fun _ => 0) = 0 := by
  induction n with
  | zero => rfl
  | succ n ih => rw [sumR_succ, ih, Rat.add_zero]
theorem sumR_swap (n m : Nat) (f : Nat → Nat → Rat) : sumR n (fun i => sumR m (fun j => f i j)) = sumR m (fun j => sumR n (fun i => f i j)) := by
  induction n with
  | zero => rw [sumR_zero]; simp only [sumR_zero]; rw [sumR_const0]
  | succ n ih =>
    rw [sumR_succ, ih, ← sumR_add]
    simp only [sumR_succ]
theorem sumR_congr {n : Nat} {f g : Nat → Rat} (h : ∀ i < n, f i = g i) : sumR n f = sumR n g := by
  unfold sumR
  rw [List.map_congr_left fun i hi => h i (List.mem_range.mp hi)]
theorem tot_sumR (l : List Rat) : tot l = sumR l.length (fun k => l.getD k 0) := by
  unfold sumR
  have := map_getD (fun q : Rat => q) 0 l
  rw [List.map_id''] at this
  · rw [← this]
  · intro x; rfl
theorem sumR_nonneg {n : Nat} {f : Nat → Rat} (h : ∀ i < n, 0 ≤ f i) : 0 ≤ sumR n f := by
  induction n with
  | zero => rw [sumR_zero]; exact Rat.le_refl
  | succ n ih =>
    rw [sumR_succ]
    have h1 := ih fun i hi => h i (by omega)
    have h2 := h n (by omega)
    grind
/-! ### kernels -/
structure Kern (n : Nat) (m : List (List Rat)) : Prop where
  shp : Shp n n m
  row : ∀ r ∈ m, (∀ q ∈ r, 0 ≤ q) ∧ tot r = 1
theorem Kern.plain (n : Nat) : Kern n (plainK n) := by
  refine ⟨plain_shp n, fun r hr => ?_⟩
  obtain ⟨j, hj, rfl⟩ := List.mem_map.mp hr
  have hj := List.mem_range.mp hj
  refine ⟨fun q hq => ?_, ?_⟩
  · obtain ⟨k, _, rfl⟩ := List.mem_map.mp hq
    split <;> decide
  · show sumR n (fun k => if j = k then 1 else 0) = 1
    have : ∀ m, sumR m (fun k => if j = k then (1 : Rat) else 0) = if j < m then 1 else 0 := by
      intro m
      induction m with
      | zero => rfl
      | succ m ih =>
        rw [sumR_succ, ih]
        by_cases h1 : j < m
        · rw [if_pos h1, if_neg (by omega), if_pos (by omega), Rat.add_zero]
        · by_cases h2 : j = m
          · rw [if_neg h1, if_pos h2, if_pos (by omega), Rat.zero_add]
          · rw [if_neg h1, if_neg h2, if_neg (by omega), Rat.add_zero]
    rw [this, if_pos hj]
theorem rowT_tot {n : Nat} {r : List Rat} {K : List (List Rat)} (hK : Kern n K) (hr : r.length = n) : tot (rowT r K n) = tot r := by
  have h1 : tot (rowT r K n) = sumR n (fun j => sumR n (fun k => r.getD k 0 * (K.getD k []).getD j 0)) := by
    show sumR n _ = _
    refine sumR_congr fun j hj => ?_
    show tot ((List.range r.length).map fun k => r.getD k 0 * (col j K).getD k 0) = _
    rw [hr]
    refine sumR_congr fun k hk => ?_
    rw [col_at (by rw [hK.shp.1]; exact hk)]
  rw [h1, sumR_swap, tot_sumR r, hr]
  refine sumR_congr fun k hk => ?_
  rw [sumR_mul]
  have hm : K.getD k [] ∈ K := getDD_mem (by rw [hK.shp.1]; exact hk)
  have h2 := (hK.row _ hm).2
  rw [tot_sumR, hK.shp.2 _ hm] at h2
  rw [h2, Rat.mul_one]
theorem rowT_nonneg {n : Nat} {r : List Rat} {K : List (List Rat)} (hK : Kern n K) (hr : r.length = n) (h0 : ∀ q ∈ r, 0 ≤ q) : ∀ q ∈ rowT r K n, 0 ≤ q := by
  intro q hq
  obtain ⟨j, hj, rfl⟩ := List.mem_map.mp hq
  have hj := List.mem_range.mp hj
  show 0 ≤ sumR r.length _
  refine sumR_nonneg fun k hk => ?_
  have hk' : k < n := by omega
  rw [col_at (by rw [hK.shp.1]; exact hk')]
  have hm : K.getD k [] ∈ K := getDD_mem (by rw [hK.shp.1]; exact hk')
  exact Rat.mul_nonneg (h0 _ (getD_mem hk)) ((hK.row _ hm).1 _ (getD_mem (by rw [hK.shp.2 _ hm]; exact hj)))
theorem Kern.prod {n : Nat} {M K : List (List Rat)} (hM : Kern n M) (hK : Kern n K) : Kern n (prod M K n) := by
  refine ⟨hM.shp.prod, fun r hr => ?_⟩
  obtain ⟨r', hr', rfl⟩ := List.mem_map.mp hr
  have hl := hM.shp.2 r' hr'
  have h := hM.row r' hr'
  exact ⟨rowT_nonneg hK hl h.1, by rw [rowT_tot hK hl, h.2]⟩
theorem Kern.kpw {n : Nat} {K : List (List Rat)} (hK : Kern n K) : ∀ t, Kern n (kpw K n t)
  | 0 => Kern.plain n
  | t + 1 => (Kern.kpw hK t).prod hK
theorem knB_of {n : Nat} {m : List (List Rat)} (h : Kern n m) : knB (tab m) = true := by
  show (tabB (tab m) && (m.map frs).all chB) = true
  rw [tabB_tab h.shp, Bool.true_and, List.all_map, List.all_eq_true]
  intro r hr
  exact chB_one (h.row r hr).1 (h.row r hr).2
/-! ### the corner's sums -/
def clamp (u w v : Rat) : Rat := if v < u then u else if w < v then w else v
theorem crn_clamp {a b : List Rat} (ha : ∀ q ∈ a, 0 ≤ q) (hb : ∀ q ∈ b, 0 ≤ q) {i j : Nat} (hi : i < a.length) (hj : j < b.length) : crn a b i j = clamp (upto a i) (upto a (i + 1)) (upto b (j + 1)) - clamp (upto a i) (upto a (i + 1)) (upto b j) := by
  have h1 := upto_le ha hi
  have h2 := upto_le hb hj
  unfold crn rmax rmin clamp
  generalize upto a i = u at *
  generalize upto a (i + 1) = w at *
  generalize upto b j = p at *
  generalize upto b (j + 1) = q at *
  grind
theorem upto_all (a : List Rat) : upto a a.length = tot a := by unfold upto; rw [List.take_length]
theorem crn_row {a b : List Rat} (ha : ∀ q ∈ a, 0 ≤ q) (hb : ∀ q ∈ b, 0 ≤ q) (he : tot a = tot b) {i : Nat} (hi : i < a.length) : sumR b.length (fun j => crn a b i j) = a.getD i 0 := by
  have h : ∀ m, m ≤ b.length → sumR m (fun j => crn a b i j) = clamp (upto a i) (upto a (i + 1)) (upto b m) - clamp (upto a i) (upto a (i + 1)) (upto b 0) := by
    intro m
    induction m with
    | zero => intro _; rw [sumR_zero]; grind
    | succ m ih =>
      intro hm
      rw [sumR_succ, ih (by omega), crn_clamp ha hb hi (by omega)]
      grind
  rw [h _ (Nat.le_refl _), upto_all, upto_zero, ← he, ← upto_all a]
  have h0 := upto_mono ha (i := 0) (j := i) (by omega) (by omega)
  have h1 := upto_le ha hi
  have h2 := upto_mono ha (i := i + 1) (j := a.length) (by omega) (by omega)
  have h3 := upto_succ hi
  rw [upto_zero] at h0
  unfold clamp
  generalize upto a i = u at *
  generalize upto a (i + 1) = w at *
  generalize upto a a.length = t at *
  generalize a.getD i 0 = p at *
  grind
theorem crn_nonneg (a b : List Rat) (i j : Nat) : 0 ≤ crn a b i j := by
  unfold crn
  generalize rmax (upto a i) (upto b j) = p
  generalize rmin (upto b (j + 1)) (upto a (i + 1)) = q
  grind
theorem crn_zero {a b : List Rat} {i j : Nat} (hi : i < a.length) (h : a.getD i 0 = 0) : crn a b i j = 0 := by
  have h3 := upto_succ hi
  rw [h] at h3
  unfold crn rmax rmin
  generalize upto a i = u at *
  generalize upto a (i + 1) = w at *
  generalize upto b j = p at *
  generalize upto b (j + 1) = q at *
  grind
def crnR (a b : List Rat) (i : Nat) : List Rat := (List.range b.length).map fun j => crn a b i j
theorem crnT_at {a b : List Rat} {i : Nat} (hi : i < a.length) : (crnT a b).getD i [] = crnR a b i := by
  unfold crnT
  rw [List.getD_eq_getElem?_getD, List.getElem?_map, List.getElem?_range hi]; rfl
theorem crnR_len (a b : List Rat) (i : Nat) : (crnR a b i).length = b.length := by simp [crnR]
theorem crnT_shp (a b : List Rat) : Shp a.length b.length (crnT a b) := by
  refine ⟨by simp [crnT], fun r hr => ?_⟩
  obtain ⟨i, _, rfl⟩ := List.mem_map.mp hr
  simp
theorem crnR_tot {a b : List Rat} (ha : ∀ q ∈ a, 0 ≤ q) (hb : ∀ q ∈ b, 0 ≤ q) (he : tot a = tot b) {i : Nat} (hi : i < a.length) : tot (crnR a b i) = a.getD i 0 := crn_row ha hb he hi
/-- the kernel of the corner coupling -/
def crnK (a b : List Rat) : List (List Rat) := (List.range a.length).map fun i => if 0 < a.getD i 0 then (crnR a b i).map fun q => q * (a.getD i 0)⁻¹ else unitR b.length
theorem ker_crn {a b : List Rat} (ha : ∀ q ∈ a, 0 ≤ q) (hb : ∀ q ∈ b, 0 ≤ q) (he : tot a = tot b) : kerOf (crnT a b) = crnK a b := by
  unfold kerOf crnK crnT
  rw [List.map_map]
  refine List.map_congr_left fun i hi => ?_
  have hi := List.mem_range.mp hi
  show kerRow (crnR a b i) = _
  unfold kerRow
  rw [crnR_tot ha hb he hi, crnR_len]
  have h0 := ha _ (getD_mem hi)
  generalize a.getD i 0 = p at *
  by_cases hp : p = 0
  · rw [if_pos hp, if_neg (by rw [hp]; decide)]
  · rw [if_neg hp, if_pos (by grind)]
    refine List.map_congr_left fun q _ => ?_
    rw [Rat.div_def]
theorem coup_crn {a b : List Rat} (ha : ∀ q ∈ a, 0 ≤ q) : coupOf a (crnK a b) = crnT a b := by
  unfold coupOf crnT
  refine List.map_congr_left fun i hi => ?_
  have hi := List.mem_range.mp hi
  have h1 : (crnK a b).getD i [] = if 0 < a.getD i 0 then (crnR a b i).map fun q => q * (a.getD i 0)⁻¹ else unitR b.length := by
    unfold crnK
    rw [List.getD_eq_getElem?_getD, List.getElem?_map, List.getElem?_range hi]; rfl
  have h0 := ha _ (getD_mem hi)
  have hz := fun h j => crn_zero (b := b) (j := j) hi h
  rw [h1]
  show _ = crnR a b i
  by_cases hp : a.getD i 0 = 0
  · rw [if_neg (by rw [hp]; decide)]
    have hz := hz hp
    rw [hp]
    unfold unitR crnR
    rw [List.map_map]
    refine List.map_congr_left fun j _ => ?_
    rw [hz j]
    exact Rat.zero_mul _
  · generalize a.getD i 0 = p at *
    rw [if_pos (by grind), List.map_map]
    refine (List.map_congr_left fun q _ => ?_).trans (List.map_id _)
    show p * (q * p⁻¹) = q
    rw [Rat.mul_comm q, ← Rat.mul_assoc, Rat.mul_inv_cancel _ hp, Rat.one_mul]
end Iv
set_option Elab.async false
set_option linter.all false
set_option maxRecDepth 100000
set_option exponentiation.threshold 20000
namespace Iv
open PySem Q02
theorem Ext.eq {e e' : Env} {i : Nat} {t : T} (h : Ext e e' i t) (hi : i < e.length) : e' = e.set i (some t) := by
  refine List.ext_getElem (by rw [h.len, List.length_set]) fun k h1 h2 => ?_
  have g : ∀ {e : Env} (hk : k < e.length), gt e k = e[k] := fun hk => by unfold gt; rw [List.getElem?_eq_getElem hk]; rfl
  have : gt e' k = gt (e.set i (some t)) k := by
    by_cases hk : k = i
    · subst hk; rw [h.on, gt_self hi]
    · rw [h.off k hk, gt_ne (fun e => hk e.symm)]
  rwa [g h1, g h2] at this
/-- a comprehension that draws -/
theorem cS {α : Type} {C : Cn} {s : Sr} {x : E} {i j : Nat} {e : Env} {its : List T} {P : T → Prop} {W : α → Prop} (φ : α → T) (hio : C.io = false) (hij : i ≠ j) (hi : i < e.length) (hj : j < e.length) (ho : ownOk e [i] = true) (hl : its.length ≤ 1000)
    {tp : T} (hg : gt e j = some tp) (hp : P tp) (hs : srs C s e = .ok its e)
    (hx : ∀ t ∈ its, ∀ tp, P tp → ∀ e', (∀ k, k ≠ i → k ≠ j → gt e' k = gt e k) → gt e' i = some t → gt e' j = some tp → e'.length = e.length → ∃ a tp' e'', P tp' ∧ W a ∧ Ext e' e'' j tp' ∧ ev C x e' = .ok (φ a) e'') :
    ∃ (l : List α) (tp' : T) (e' : Env), P tp' ∧ l.length = its.length ∧ (∀ a ∈ l, W a) ∧ Ext e e' j tp' ∧ ev C (.lc [i] (.nm i) s .non x) e = .ok (.lst true (l.map φ)) e' := by
  have e0 : e.set j (some tp) = e := by rw [← hg]; exact set_gt hj
  obtain ⟨l, tp', h1, h2, h3, h4⟩ := lcS (C := C) (s := s) (x := x) (e := e) (its := its) (P := P) (W := W) φ hij hi ho (by rw [hio]; rfl) (by have : SZ = 16777216 := rfl; omega) hp (by rw [e0]; exact hs) fun t ht tp hp => by
    have hj' : j < (e.set i (some t)).length := by rw [List.length_set]; exact hj
    obtain ⟨a, tp', e'', q1, q2, q3, q4⟩ := hx t ht tp hp ((e.set i (some t)).set j (some tp)) (fun k h1 h2 => by rw [gt_ne (fun e => h2 e.symm), gt_ne (fun e => h1 e.symm)]) (by rw [gt_ne (fun e => hij e.symm), gt_self hi]) (gt_self hj') (by rw [List.length_set, List.length_set])
    refine ⟨a, tp', q1, q2, ?_⟩
    rw [q4, q3.eq (by rw [List.length_set]; exact hj'), List.set_set]
  rw [e0] at h4
  exact ⟨l, tp', e.set j (some tp'), h1, h2, h3, Ext.of _ hj, h4⟩
theorem repl_one (n : Nat) (t : T) : repl (n : Int) [t] = List.replicate n t := by
  unfold repl
  rw [Int.toNat_natCast]
  induction n with
  | zero => rfl
  | succ n ih => rw [List.replicate_succ, List.flatten_cons, ih]; rfl
theorem mul_tup {t : T} {n : Nat} (hf : isF t = true) (hn : n ≤ 1000) : bin .mul (.tup [t]) (.int n) = some (.tup (List.replicate n t)) := by
  show (if _ then _ else _) = _
  have h1 : isFs [t] = true := by unfold isFs; rw [hf]; rfl
  rw [h1, decide_eq_true (by omega : (n : Int) ≤ 1000), decide_eq_true (by simp : [t].length ≤ 1000), decide_eq_true (by omega : -1000 ≤ (n : Int)), repl_one]; rfl
theorem pww_le : ∀ n, n ≤ 4 → ∀ k, k ≤ 3 → pww n 5 k ≤ 589 := by decide
theorem segD {C : Cn} (K : K02 C) {e : Env} {x y z : Nat} {A B D : List (List Rat)} {tp : T} (b : Ba e x y z A B D) (h1 : gt e 1 = some tp) (ht : Tape tp) :
    ∃ e' tp' S, (∀ r, exs C (.cons q13 (.cons q14 (.cons q15 (.cons q16 (.cons q17 (.cons q18 (.cons q19 r))))))) e = exs C r e') ∧ Ba e' x y z A B D ∧ gt e' 1 = some tp' ∧ Tape tp' ∧ gt e' 8 = some (tab S) ∧ Kern y S ∧ TW 5 S := by
  have hsz : SZ = 16777216 := rfl
  have hio := K.io
  have ⟨x0, x4, y0, y4, z0, z4⟩ := (⟨b.x0, b.x4, b.y0, b.y4, b.z0, b.z4⟩ : 0 < x ∧ x ≤ 4 ∧ 0 < y ∧ y ≤ 4 ∧ 0 < z ∧ z ≤ 4)
  -- the square
  obtain ⟨S, tp1, e0, t1, lS, wS, x0', v0⟩ := cS (C := C) (s := .rg1 (.var 22)) (x := .cio 42 1 (.cons (.var 22) .nil)) (i := 32) (j := 1) (e := e) (P := Tape) (W := fun r : List Rat => r.length = y ∧ tot r = 1 ∧ ∀ q ∈ r, 0 ≤ q ∧ Wt 5 q) frs hio (by decide) (by rw [b.len]; decide) (by rw [b.len]; decide) (own_none (b.nn 32 (by decide))) (by simp; omega) h1 ht (srs_rg (ev_vi b.h22) (by omega)) fun t _ tp ht e' g1 g2 g3 g4 => by
    obtain ⟨l, tp', e'', p1, p2, p3, p4, p5, p6⟩ := ev_rw K.rw (x := .var 22) g3 (by rw [g4, b.len]; decide) ht y0 (by omega) (ev_vi ((g1 22 (by decide) (by decide)).trans b.h22))
    exact ⟨l, tp', e'', p4, ⟨p1, p2, p3⟩, p5, p6⟩
  rw [List.length_map, List.length_range] at lS
  have kS : Kern y S := ⟨⟨lS, fun r hr => (wS r hr).1⟩, fun r hr => ⟨fun q hq => ((wS r hr).2.2 q hq).1, (wS r hr).2.1⟩⟩
  have wS : TW 5 S := fun r hr q hq => ((wS r hr).2.2 q hq).2
  have b0 := b.ext x0' (by decide)
  have v1 : ev C (.prim .tuple (.lc [32] (.nm 32) (.rg1 (.var 22)) .non (.cio 42 1 (.cons (.var 22) .nil)))) e = .ok (tab S) e0 := by
    rw [x_ev_prim, v0, R.bind_ok, prim_tuple (isFs_tab S)]; rfl
  obtain ⟨e1, s1, x1⟩ := asgX (k := 8) hio v1 (by rw [b0.len]; decide)
  have b1 := b0.ext x1 (by decide)
  -- the plain one
  have v2 : ev C (.prim .tuple (.lc [33] (.nm 33) (.rg1 (.var 22)) .non (.prim .tuple (.lc [32] (.nm 32) (.rg1 (.var 22)) .non (.tup (.cons (.prim .int (.cmpL .eq 33 (.var 32))) (.cons (.int 1) .nil))))))) e1 = .ok (tab (plainK y)) e1 := by
    refine tupT (g := fun j => (List.range y).map fun k => if j = k then 1 else 0) (cR hio _ (ev_vi b1.h22) (by rw [b1.len]; decide) (own_none (b1.nn 33 (by decide))) (by omega) fun j hj e' g => ?_)
    refine tupQ (g := fun k => if j = k then 1 else 0) (cR hio _ (ev_vi (g.k b1.h22)) (by rw [g.len, b1.len]; decide) (own_none (g.k (b1.nn 32 (by decide)))) (by omega) fun k hk e'' g2 => ?_)
    have c1 : cmp .eq (.int (j : Int)) (.int (k : Int)) = some (decide (j = k)) := by
      rw [cmpInt]
      congr 1
      rw [decide_eq_decide]; omega
    have c2 : ev C (.cmpL .eq 33 (.var 32)) e'' = .ok (.bl (decide (j = k))) e'' := by
      rw [x_ev_cmpL, has, g2.k g.on, ev_vi g2.on, R.bind_ok, g2.k g.on]
      simp only [c1]; rfl
    by_cases h : j = k
    · rw [decide_eq_true h] at c2
      rw [if_pos h, x_ev_tup, x_evs_cons, x_ev_prim, c2]; rfl
    · rw [decide_eq_false h] at c2
      rw [if_neg h, x_ev_tup, x_evs_cons, x_ev_prim, c2]; rfl
  obtain ⟨e2, s2, x2⟩ := asgX (k := 9) hio v2 (by rw [b1.len]; decide)
  have b2 := b1.ext x2 (by decide)
  obtain ⟨e3, s3, x3⟩ := asgX (C := C) (x := .var 9) (k := 10) hio (ev_v x2.on (isF_tab (plainK y))) (by rw [b2.len]; decide)
  have b3 := b2.ext x3 (by decide)
  -- times
  obtain ⟨t, tp2, e4, ht4, t2, x4', v4⟩ := ev_nx K.nx (a := .int 4) (k := 4) (x3.k (x2.k (x1.k x0'.on))) (by rw [b3.len]; decide) t1 (by decide) (by decide) rfl
  have b4 := b3.ext x4' (by decide)
  obtain ⟨e5, s5, x5⟩ := asgX (k := 11) hio v4 (by rw [b4.len]; decide)
  have b5 := b4.ext x5 (by decide)
  have p8 : gt e5 8 = some (tab S) := x5.k (x4'.k (x3.k (x2.k x1.on)))
  have p9 : gt e5 9 = some (tab (plainK y)) := x5.k (x4'.k (x3.k x2.on))
  have p10 : gt e5 10 = some (tab (plainK y)) := x5.k (x4'.k x3.on)
  have p1 : gt e5 1 = some tp2 := x5.k x4'.on
  -- the power
  obtain ⟨e6, s6, b6, r1, r8, r9, r10, r11⟩ := ex_for_rg (C := C) (t := .nm 12) (a := .var 11) (b := .cons (.asg (.nm 10) (.call 49 (.cons (.var 10) (.cons (.var 8) (.cons (.var 22) .nil))))) .nil) (n := t) (e := e5) (e0 := e5)
    (fun k e => Ba e x y z A B D ∧ gt e 1 = some tp2 ∧ gt e 8 = some (tab S) ∧ gt e 9 = some (tab (plainK y)) ∧ gt e 10 = some (tab (kpw S y k)) ∧ gt e 11 = some (.int t)) (ev_vi x5.on) (by omega) ⟨b5, p1, p8, p9, p10, x5.on⟩ (by
      rintro k hk e ⟨b, r1, r8, r9, r10, r11⟩
      have g := Ext.of (e := e) (i := 12) (.int k) (by rw [b.len]; decide)
      have b' := b.ext g (by decide)
      have hw := pww_le y y4 k (by omega)
      have hc := K.lp y y y (pww y 5 k) 5 (kpw S y k) S (kpw_shp (K := S) (n := y) k) kS.shp (kpw_wt kS.shp wS k) wS (by
        have : y * (pww y 5 k + 5 + 1) ≤ 4 * (589 + 5 + 1) := Nat.mul_le_mul y4 (by omega)
        have h2 := pww_le y y4 (k + 1) (by omega)
        have h3 : pww y 5 (k + 1) = 1 + y * (pww y 5 k + 5 + 1) := rfl
        omega) (by omega) y0 (by omega) (by omega)
      obtain ⟨e', s, g2⟩ := asgX (C := C) (x := .call 49 (.cons (.var 10) (.cons (.var 8) (.cons (.var 22) .nil)))) (k := 10) hio (ev_c3 (ev_v (g.k r10) (isF_tab _)) (ev_v (g.k r8) (isF_tab _)) (ev_vi b'.h22) (isF_tab _) (isF_tab _) rfl hc) (by rw [b'.len]; decide)
      refine ⟨e', ?_, b'.ext g2 (by decide), g2.k (g.k r1), g2.k (g.k r8), g2.k (g.k r9), g2.on, g2.k (g.k r11)⟩
      rw [asg_nm hio (by rw [b.len]; decide), R.bind_ok, exs_nx s]; rfl)
  -- the even one
  have hde := made_nat K.le (a := 1) (b := y) (by omega) (by decide) (by omega)
  have v7 : ev C (.prim .tuple (.lc [32] (.nm 32) (.rg1 (.var 22)) .non (.bin .mul (.tup (.cons (.call 36 (.cons (.int 1) (.cons (.var 22) .nil))) .nil)) (.var 22)))) e6 = .ok (tab (evenK y)) e6 := by
    refine tupT (g := fun _ => List.replicate y (Rat.divInt 1 y)) (cR hio _ (ev_vi b6.h22) (by rw [b6.len]; decide) (own_none (b6.nn 32 (by decide))) (by omega) fun k hk e' g => ?_)
    have q1 := ev_vi (C := C) (g.k b6.h22)
    have q2 : ev C (.call 36 (.cons (.int 1) (.cons (.var 22) .nil))) e' = .ok (fr (Rat.divInt 1 y)) e' := ev_c2 (a := .int 1) (b := .int y) rfl q1 rfl rfl hde
    have q3 : frs (List.replicate y (Rat.divInt 1 y)) = .tup (List.replicate y (fr (Rat.divInt 1 y))) := by unfold frs; rw [List.map_replicate]
    have q4 := mul_tup (t := fr (Rat.divInt 1 y)) (n := y) rfl (by omega)
    rw [q3]
    generalize Rat.divInt 1 y = d at *
    rw [x_ev_bin, x_ev_tup, x_evs_cons, q2, R.bind_ok, x_evs_nil, R.bind_ok, R.bind_ok, R.bind_ok, q1, R.bind_ok, q4]; rfl
  obtain ⟨e7, s7, x7⟩ := asgX (k := 13) hio v7 (by rw [b6.len]; decide)
  have b7 := b6.ext x7 (by decide)
  -- the same
  have kP := Kern.kpw kS t
  have wP := kpw_wt kS.shp wS t
  have hwt := pww_le y y4 t (by omega)
  have c1 := K.kp y 5 t S kS.shp wS y0 (by omega) (by omega)
  have c2 := K.pk y (by omega)
  have c3 := K.ek y y0 (by omega)
  have u8 : gt e7 8 = some (tab S) := x7.k r8
  have u9 : gt e7 9 = some (tab (plainK y)) := x7.k r9
  have u10 : gt e7 10 = some (tab (kpw S y t)) := x7.k r10
  have u11 : gt e7 11 = some (.int t) := x7.k r11
  have k1 : ev C (.call 26 (.cons (.var 8) (.cons (.var 11) .nil))) e7 = .ok (tab (kpw S y t)) e7 := ev_c2 (ev_v u8 (isF_tab S)) (ev_vi u11) (isF_tab S) rfl c1
  have k2 : ev C (.call 24 (.cons (.var 22) .nil)) e7 = .ok (tab (plainK y)) e7 := ev_c1 (ev_vi b7.h22) c2
  have k3 : ev C (.call 25 (.cons (.var 22) .nil)) e7 = .ok (tab (evenK y)) e7 := ev_c1 (ev_vi b7.h22) c3
  obtain ⟨V, hV⟩ : ∃ V, V = [tab (kpw S y t), tab (plainK y), tab (evenK y)] := ⟨_, rfl⟩
  have hVF : isFs V = true := by rw [hV]; simp [isFs]
  have k6 := ev_lstX (evsC k1 (evsC k2 (evsC k3 (x_evs_nil (C := C) (e := e7)))))
  rw [← hV, frzs_of V hVF] at k6
  have m6 := ev_lstX (evsC (ev_v (C := C) u10 (isF_tab _)) (evsC (ev_v (C := C) u9 (isF_tab _)) (evsC (ev_v (C := C) x7.on (isF_tab _)) (x_evs_nil (C := C) (e := e7)))))
  rw [← hV, frzs_of V hVF] at m6
  have vP : Vl 3 (tab (kpw S y t)) := Vl_tab (fun r hr => ⟨fun q hq => (wP r hr q hq).mono (by omega), by rw [kP.shp.2 r hr]; omega⟩) (by rw [kP.shp.1]; omega)
  have hVl : Vl 10 (.lst false V) := by
    refine (Vl_lst (k := 3) (fun t ht => ?_) (by rw [hV]; simp)).mono (by decide)
    rw [hV] at ht
    simp only [List.mem_cons, List.not_mem_nil, or_false] at ht
    rcases ht with rfl | rfl | rfl
    · exact vP
    · exact Vl_tab (fun r hr => ⟨fun q hq => (plain_wt y r hr q hq).mono (by decide), by rw [(plain_shp y).2 r hr]; omega⟩) (by rw [(plain_shp y).1]; omega)
    · refine Vl_tab (fun r hr => ?_) (by simp [evenK]; omega)
      obtain ⟨i, hi, rfl⟩ := List.mem_map.mp hr
      refine ⟨fun q hq => ?_, by simp; omega⟩
      obtain ⟨_, rfl⟩ := List.mem_replicate.mp hq
      have hq1 : Wt 10 (Rat.divInt 1 y) := Wt.divInt (by omega) (by decide) (by rw [Int.natAbs_natCast]; omega)
      exact hq1.mono (by decide)
  have hsame : ev C (.not (.call 35 (.cons (.lst (.cons (.call 26 (.cons (.var 8) (.cons (.var 11) .nil))) (.cons (.call 24 (.cons (.var 22) .nil)) (.cons (.call 25 (.cons (.var 22) .nil)) .nil)))) (.cons (.lst (.cons (.var 10) (.cons (.var 9) (.cons (.var 13) .nil)))) .nil)))) e7 = .ok (.bl false) e7 := by
    have h : ev C (.call 35 (.cons (.lst (.cons (.call 26 (.cons (.var 8) (.cons (.var 11) .nil))) (.cons (.call 24 (.cons (.var 22) .nil)) (.cons (.call 25 (.cons (.var 22) .nil)) .nil)))) (.cons (.lst (.cons (.var 10) (.cons (.var 9) (.cons (.var 13) .nil)))) .nil))) e7 = .ok (.bl true) e7 := by
      rw [x_ev_call, x_evs_cons, k6, R.bind_ok, x_evs_cons, m6, R.bind_ok, x_evs_nil, R.bind_ok, R.bind_ok, R.bind_ok]
      show crR (C.call 35 [frz (.lst true V), frz (.lst true V)]) e7 = _
      rw [frz_lstO hVF, K.sm _ hVl]; rfl
    exact ev_not2 h
  have hkn : ev C (.isb true (.call 13 (.cons (.var 10) .nil)) true) e7 = .ok (.bl false) e7 := by
    have hc := K.kn (tab (kpw S y t)) (vP.mono (by decide)) fun ts e l hl => by
      have e : (kpw S y t).map frs = ts := by injection e
      rw [← e] at hl
      obtain ⟨r, hr, he⟩ := List.mem_map.mp hl
      cases frs_inj he
      refine SumOk.of (fun q hq => (wP _ hr q hq).mono hwt) ?_
      rw [kP.shp.2 _ hr]
      have : y * (589 + 1) ≤ 4 * 590 := Nat.mul_le_mul y4 (by omega)
      omega
    rw [knB_of kP] at hc
    rw [x_ev_isb, ev_c1 (ev_v u10 (isF_tab _)) (by rw [frz_tab]; exact hc)]; rfl
  have s8 := ex_ife_ret (x := .bl false) (u := .bl false) (ev_or2 hsame fun _ => hkn) rfl
  refine ⟨e7, tp2, S, fun r => ?_, b7, x7.k r1, t2, u8, kS, wS⟩
  have s1 : ex C q13 e = .ok .nx e1 := s1
  have s2 : ex C q14 e1 = .ok .nx e2 := s2
  have s3 : ex C q15 e2 = .ok .nx e3 := s3
  have s4 : ex C q16 e3 = .ok .nx e5 := s5
  have s5 : ex C q17 e5 = .ok .nx e6 := s6
  have s6 : ex C q18 e6 = .ok .nx e7 := s7
  have s7 : ex C q19 e7 = .ok .nx e7 := s8
  rw [exs_nx s1, exs_nx s2, exs_nx s3, exs_nx s4, exs_nx s5, exs_nx s6, exs_nx s7]
end Iv
set_option Elab.async false
set_option linter.all false
set_option maxRecDepth 100000
set_option exponentiation.threshold 20000
namespace Iv
open PySem Q02
theorem UpW {k : Nat} {l : List Rat} (h : ∀ q ∈ l, Wt k q) (i : Nat) : Wt (1 + l.length * (k + 1)) (upto l i) := by
  unfold upto
  refine (Wt.tot (l := l.take i) fun q hq => h q (List.mem_of_mem_take hq)).mono ?_
  have : (l.take i).length ≤ l.length := by rw [List.length_take]; omega
  have := Nat.mul_le_mul_right (k + 1) this
  omega
theorem UpOk.of {k : Nat} {l : List Rat} (h : ∀ q ∈ l, Wt k q) (hk : 1 + l.length * (k + 1) ≤ 1000) : UpOk l := fun i _ => (UpW h i).mono hk
theorem crn_wt {a b : List Rat} {k : Nat} (ha : ∀ i, Wt k (upto a i)) (hb : ∀ i, Wt k (upto b i)) (i j : Nat) : Wt (k + k + 1) (crn a b i j) := by
  have w1 : Wt k (rmax (upto a i) (upto b j)) := by unfold rmax; split; exact ha i; exact hb j
  have w2 : Wt k (rmin (upto b (j + 1)) (upto a (i + 1))) := by unfold rmin; split; exact hb _; exact ha _
  unfold crn
  split
  · exact w2.sub w1
  · exact Wt.zero.mono (by omega)
theorem crnT_wt {a b : List Rat} {k : Nat} (ha : ∀ i, Wt k (upto a i)) (hb : ∀ i, Wt k (upto b i)) : TW (k + k + 1) (crnT a b) := by
  intro r hr q hq
  obtain ⟨i, _, rfl⟩ := List.mem_map.mp hr
  obtain ⟨j, _, rfl⟩ := List.mem_map.mp hq
  exact crn_wt ha hb i j
theorem tot_mul (s : Rat) : ∀ l : List Rat, tot (l.map fun q => q * s) = tot l * s
  | [] => by rw [List.map_nil, tot_nil, Rat.zero_mul]
  | q :: l => by rw [List.map_cons, tot_cons, tot_cons, tot_mul s l, Rat.add_mul]
def sclR (F : List Rat) (s : Rat) : List Rat := F.map fun q => q * s
structure Bb (e : Env) (x y : Nat) (F G : List Rat) (s : Rat) (S : List (List Rat)) : Prop where
  lF : F.length = x
  lG : G.length = y
  tF : tot F = 1
  tG : tot G = 1
  pF : ∀ q ∈ F, 0 ≤ q ∧ Wt 5 q
  pG : ∀ q ∈ G, 0 ≤ q ∧ Wt 5 q
  s0 : 0 < s
  ws : Wt 4 s
  kS : Kern y S
  wS : TW 5 S
  h8 : gt e 8 = some (tab S)
  h14 : gt e 14 = some (tab (crnT (sclR F s) (sclR G s)))
  h15 : gt e 15 = some (tab (outer F G))
  h27 : gt e 27 = some (frs F)
  h28 : gt e 28 = some (frs G)
  h29 : gt e 29 = some (frs (sclR F s))
  h30 : gt e 30 = some (frs (sclR G s))
theorem Bb.ext {e e' : Env} {x y k : Nat} {F G : List Rat} {s : Rat} {S : List (List Rat)} {v : T} (h : Bb e x y F G s S) (g : Ext e e' k v) (hk : k ≠ 8 ∧ k ≠ 14 ∧ k ≠ 15 ∧ k ≠ 27 ∧ k ≠ 28 ∧ k ≠ 29 ∧ k ≠ 30) : Bb e' x y F G s S := by
  obtain ⟨h1, h2, h3, h4, h5, h6, h7, h8, h9, h10, h11, h12, h13, h14, h15, h16, h17⟩ := h
  exact ⟨h1, h2, h3, h4, h5, h6, h7, h8, h9, h10, (g.off _ (by omega)).trans h11, (g.off _ (by omega)).trans h12, (g.off _ (by omega)).trans h13, (g.off _ (by omega)).trans h14, (g.off _ (by omega)).trans h15, (g.off _ (by omega)).trans h16, (g.off _ (by omega)).trans h17⟩
/-- what is known of the weights -/
structure Lk (F : List Rat) (s : Rat) (n : Nat) : Prop where
  len : (sclR F s).length = n
  nn : ∀ q ∈ sclR F s, 0 ≤ q
  wt : ∀ q ∈ sclR F s, Wt 9 q
  tt : tot (sclR F s) = s
  so : SumOk (sclR F s)
  sm : ∀ q ∈ sclR F s, Sm q
  uo : UpOk (sclR F s)
  uw : ∀ i, Wt 41 (upto (sclR F s) i)
theorem Lk.of {F : List Rat} {s : Rat} {n : Nat} (h4 : n ≤ 4) (hl : F.length = n) (ht : tot F = 1) (hF : ∀ q ∈ F, 0 ≤ q ∧ Wt 5 q) (s0 : 0 < s) (ws : Wt 4 s) : Lk F s n := by
  have len : (sclR F s).length = n := by unfold sclR; rw [List.length_map, hl]
  have wt : ∀ q ∈ sclR F s, Wt 9 q := fun q hq => by
    obtain ⟨p, hp, rfl⟩ := List.mem_map.mp hq
    exact (hF p hp).2.mul ws
  have so := SumOk.of wt (by rw [len]; omega)
  refine ⟨len, fun q hq => ?_, wt, ?_, so.1, so.2, UpOk.of wt (by rw [len]; omega), fun i => (UpW wt i).mono (by rw [len]; omega)⟩
  · obtain ⟨p, hp, rfl⟩ := List.mem_map.mp hq
    exact Rat.mul_nonneg (hF p hp).1 (Rat.le_of_lt s0)
  · unfold sclR
    rw [tot_mul, ht, Rat.one_mul]
theorem outer_shp (a b : List Rat) : Shp a.length b.length (outer a b) := by
  refine ⟨by simp [outer], fun r hr => ?_⟩
  obtain ⟨i, _, rfl⟩ := List.mem_map.mp hr
  simp
theorem outer_wt {a b : List Rat} {j k : Nat} (ha : ∀ q ∈ a, Wt j q) (hb : ∀ q ∈ b, Wt k q) : TW (j + k) (outer a b) := by
  intro r hr q hq
  obtain ⟨p, hp, rfl⟩ := List.mem_map.mp hr
  obtain ⟨p', hp', rfl⟩ := List.mem_map.mp hq
  exact (ha p hp).mul (hb p' hp')
theorem divInt_pos {k n : Nat} (hk : 0 < k) (hn : 0 < n) : 0 < Rat.divInt k n := by
  have h := @divInt_nn k n hn
  rcases Classical.em (Rat.divInt k n = 0) with h0 | h0
  · have h2 : (0 : Rat) = Rat.divInt 0 1 := rfl
    rw [h2, Rat.divInt_eq_divInt_iff (by omega) (by decide)] at h0
    omega
  · grind
theorem segE {C : Cn} (K : K02 C) {e : Env} {x y z : Nat} {A B D S : List (List Rat)} {tp : T} (b : Ba e x y z A B D) (h1 : gt e 1 = some tp) (ht : Tape tp) (h8 : gt e 8 = some (tab S)) (kS : Kern y S) (wS : TW 5 S) :
    ∃ e' tp' F G s, (∀ r, exs C (.cons q20 (.cons q21 (.cons q22 (.cons q23 (.cons q24 (.cons q25 r)))))) e = exs C r e') ∧ Ba e' x y z A B D ∧ gt e' 1 = some tp' ∧ Tape tp' ∧ Bb e' x y F G s S := by
  have hsz : SZ = 16777216 := rfl
  have hio := K.io
  have ⟨x0, x4, y0, y4, z0, z4⟩ := (⟨b.x0, b.x4, b.y0, b.y4, b.z0, b.z4⟩ : 0 < x ∧ x ≤ 4 ∧ 0 < y ∧ y ≤ 4 ∧ 0 < z ∧ z ≤ 4)
  -- first, second
  obtain ⟨F, tp1, e1, lF, tF, pF, t1, x1, v1⟩ := ev_rw K.rw (x := .var 21) h1 (by rw [b.len]; decide) ht x0 x4 (ev_vi b.h21)
  have b1 := b.ext x1 (by decide)
  obtain ⟨G, tp2, e2, lG, tG, pG, t2, x2, v2⟩ := ev_rw K.rw (x := .var 22) x1.on (by rw [b1.len]; decide) t1 y0 y4 (ev_vi b1.h22)
  have b2 := b1.ext x2 (by decide)
  obtain ⟨e3, e4, s1, x3, x4'⟩ := ex_tp2 (a := 27) (b := 28) hio (evs2 v1 v2) (by rw [b2.len]; decide) (by rw [b2.len]; decide)
  have b3 := b2.ext x3 (by decide)
  have b4 := b3.ext x4' (by decide)
  -- the scale
  obtain ⟨m, tp3, e5, hm, t3, x5, v5⟩ := ev_nx K.nx (a := .int 5) (k := 5) (x4'.k (x3.k x2.on)) (by rw [b4.len]; decide) t2 (by decide) (by decide) rfl
  have b5 := b4.ext x5 (by decide)
  obtain ⟨n, tp4, e6, hn, t4, x6, v6⟩ := ev_nx K.nx (a := .int 3) (k := 3) x5.on (by rw [b5.len]; decide) t3 (by decide) (by decide) rfl
  have b6 := b5.ext x6 (by decide)
  obtain ⟨s, hs⟩ : ∃ s, s = Rat.divInt ((m + 1 : Nat) : Int) ((n + 1 : Nat) : Int) := ⟨_, rfl⟩
  have ws : Wt 4 s := by rw [hs]; exact Wt.divInt (by omega) (by omega) (by omega)
  have s0 : 0 < s := by rw [hs]; exact divInt_pos (by omega) (by omega)
  have hc := made_nat K.le (a := m + 1) (b := n + 1) (by omega) (by omega) (by omega)
  rw [← hs] at hc
  have v7 : ev C (.call 36 (.cons (.bin .add (.int 1) (.cio 34 1 (.cons (.int 5) .nil))) (.cons (.bin .add (.int 1) (.cio 34 1 (.cons (.int 3) .nil))) .nil))) e4 = .ok (fr s) e6 := by
    rw [x_ev_call, evs2 (ev_inc v5) (ev_inc v6), R.bind_ok]
    show crR (C.call 36 [.int (m + 1 : Nat), .int (n + 1 : Nat)]) e6 = _
    rw [hc]; rfl
  obtain ⟨e7, s2, x7⟩ := asgX (k := 7) hio v7 (by rw [b6.len]; decide)
  have b7 := b6.ext x7 (by decide)
  have p27 : gt e7 27 = some (frs F) := x7.k (x6.k (x5.k (x4'.k x3.on)))
  have p28 : gt e7 28 = some (frs G) := x7.k (x6.k (x5.k x4'.on))
  have p7 : gt e7 7 = some (fr s) := x7.on
  have p1 : gt e7 1 = some tp4 := x7.k x6.on
  have p8 : gt e7 8 = some (tab S) := x7.k (x6.k (x5.k (x4'.k (x3.k (x2.k (x1.k h8))))))
  -- left, right
  have scl : ∀ (j : Nat) (H : List Rat), gt e7 j = some (frs H) → j ≠ 35 → H.length ≤ 4 → (∀ q ∈ H, 0 ≤ q ∧ Wt 5 q) → ev C (.prim .tuple (.lc [35] (.nm 35) (.seq (.var j)) .non (.call 40 (.cons (.var 35) (.cons (.var 7) .nil))))) e7 = .ok (frs (sclR H s)) e7 := by
    intro j H hj hn hl hw
    refine tupQ (g := fun q : Rat => q * s) (cA fr hio _ (srs_frs hj) (by rw [b7.len]; decide) (own_none (b7.nn 35 (by decide))) (by omega) fun q hq e' g => ?_)
    exact ev_c2 (ev_v g.on (isF_fr q)) (ev_v (g.k p7) (isF_fr s)) (isF_fr q) (isF_fr s) (K.ti _ _ ((hw q hq).2.mono (by decide)) (ws.mono (by decide)))
  obtain ⟨e8, e9, s3, x8, x9⟩ := ex_tp2 (a := 29) (b := 30) hio (evs2 (scl 27 F p27 (by decide) (by omega) pF) (scl 28 G p28 (by decide) (by omega) pG)) (by rw [b7.len]; decide) (by rw [b7.len]; decide)
  have b8 := b7.ext x8 (by decide)
  have b9 := b8.ext x9 (by decide)
  have kL := Lk.of x4 lF tF pF s0 ws
  have kR := Lk.of y4 lG tG pG s0 ws
  have p29 : gt e9 29 = some (frs (sclR F s)) := x9.k x8.on
  have p30 : gt e9 30 = some (frs (sclR G s)) := x9.on
  -- the corner
  have c1 := K.lc (sclR F s) (sclR G s) kL.sm kR.sm (by rw [kL.len]; omega) (by rw [kR.len]; omega) kL.uo kR.uo
  obtain ⟨e10, s4, x10⟩ := asgX (C := C) (x := .call 50 (.cons (.var 29) (.cons (.var 30) .nil))) (k := 14) hio (ev_c2 (ev_v p29 (isF_frs _)) (ev_v p30 (isF_frs _)) (isF_frs _) (isF_frs _) c1) (by rw [b9.len]; decide)
  have b10 := b9.ext x10 (by decide)
  have q27 : gt e10 27 = some (frs F) := x10.k (x9.k (x8.k p27))
  have q28 : gt e10 28 = some (frs G) := x10.k (x9.k (x8.k p28))
  -- apart
  have v11 : ev C (.prim .tuple (.lc [34] (.nm 34) (.seq (.var 27)) .non (.prim .tuple (.lc [37] (.nm 37) (.seq (.var 28)) .non (.call 40 (.cons (.var 34) (.cons (.var 37) .nil))))))) e10 = .ok (tab (outer F G)) e10 := by
    refine tupT (g := fun p : Rat => G.map fun q => p * q) (cA fr hio _ (srs_frs q27) (by rw [b10.len]; decide) (own_none (b10.nn 34 (by decide))) (by omega) fun p hp e' g => ?_)
    refine tupQ (g := fun q : Rat => p * q) (cA fr hio _ (srs_frs (g.k q28)) (by rw [g.len, b10.len]; decide) (own_none (g.k (b10.nn 37 (by decide)))) (by omega) fun q hq e'' g2 => ?_)
    exact ev_c2 (ev_v (g2.k g.on) (isF_fr p)) (ev_v g2.on (isF_fr q)) (isF_fr p) (isF_fr q) (K.ti _ _ ((pF p hp).2.mono (by decide)) ((pG q hq).2.mono (by decide)))
  obtain ⟨e11, s5, x11⟩ := asgX (k := 15) hio v11 (by rw [b10.len]; decide)
  have b11 := b10.ext x11 (by decide)
  have B11 : Bb e11 x y F G s S := ⟨lF, lG, tF, tG, pF, pG, s0, ws, kS, wS, x11.k (x10.k (x9.k (x8.k p8))), x11.k x10.on, x11.on, x11.k q27, x11.k q28, x11.k (x10.k p29), x11.k (x10.k p30)⟩
  -- the same
  have nL : sclR F s ≠ [] := fun h => by have := kL.len; rw [h, List.length_nil] at this; omega
  have nR : sclR G s ≠ [] := fun h => by have := kR.len; rw [h, List.length_nil] at this; omega
  have c2 := K.cr (sclR F s) (sclR G s) kL.so kR.so kL.sm kR.sm kL.nn kR.nn nL nR (by rw [kL.len]; omega) (by rw [kR.len]; omega) (by rw [kL.tt, kR.tt]) kL.uo kR.uo
  have c3 := K.ap F G (by omega) (by omega) (fun q hq => (pF q hq).2.mono (by decide)) (fun q hq => (pG q hq).2.mono (by decide))
  have k1 : ev C (.call 28 (.cons (.var 29) (.cons (.var 30) .nil))) e11 = .ok (tab (crnT (sclR F s) (sclR G s))) e11 := ev_c2 (ev_v B11.h29 (isF_frs _)) (ev_v B11.h30 (isF_frs _)) (isF_frs _) (isF_frs _) c2
  have k2 : ev C (.call 27 (.cons (.var 27) (.cons (.var 28) .nil))) e11 = .ok (tab (outer F G)) e11 := ev_c2 (ev_v B11.h27 (isF_frs _)) (ev_v B11.h28 (isF_frs _)) (isF_frs _) (isF_frs _) c3
  obtain ⟨V, hV⟩ : ∃ V, V = [tab (crnT (sclR F s) (sclR G s)), tab (outer F G)] := ⟨_, rfl⟩
  have hVF : isFs V = true := by rw [hV]; simp [isFs]
  have k6 := ev_lstX (evsC k1 (evsC k2 (x_evs_nil (C := C) (e := e11))))
  rw [← hV, frzs_of V hVF] at k6
  have m6 := ev_lstX (evsC (ev_v (C := C) B11.h14 (isF_tab _)) (evsC (ev_v (C := C) B11.h15 (isF_tab _)) (x_evs_nil (C := C) (e := e11))))
  rw [← hV, frzs_of V hVF] at m6
  have hVl : Vl 10 (.lst false V) := by
    refine (Vl_lst (k := 3) (fun t ht => ?_) (by rw [hV]; simp)).mono (by decide)
    rw [hV] at ht
    simp only [List.mem_cons, List.not_mem_nil, or_false] at ht
    rcases ht with rfl | rfl
    · exact Vl_tab (fun r hr => ⟨fun q hq => (crnT_wt kL.uw kR.uw r hr q hq).mono (by decide), by rw [(crnT_shp _ _).2 r hr, kR.len]; omega⟩) (by rw [(crnT_shp _ _).1, kL.len]; omega)
    · exact Vl_tab (fun r hr => ⟨fun q hq => (outer_wt (fun q hq => (pF q hq).2) (fun q hq => (pG q hq).2) r hr q hq).mono (by decide), by rw [(outer_shp _ _).2 r hr]; omega⟩) (by rw [(outer_shp _ _).1]; omega)
  have s6 := same_if K.sm k6 m6 (frz_lstO hVF true) (frz_lstO hVF true) hVl
  refine ⟨e11, tp4, F, G, s, fun r => ?_, b11, x11.k (x10.k (x9.k (x8.k p1))), t4, B11⟩
  have s1 : ex C q20 e = .ok .nx e4 := s1
  have s2 : ex C q21 e4 = .ok .nx e7 := s2
  have s3 : ex C q22 e7 = .ok .nx e9 := s3
  have s4 : ex C q23 e9 = .ok .nx e10 := s4
  have s5 : ex C q24 e10 = .ok .nx e11 := s5
  have s6 : ex C q25 e11 = .ok .nx e11 := s6
  rw [exs_nx s1, exs_nx s2, exs_nx s3, exs_nx s4, exs_nx s5, exs_nx s6]
end Iv
set_option Elab.async false
set_option linter.all false
set_option maxRecDepth 100000
set_option exponentiation.threshold 20000
namespace Iv
open PySem Q02
theorem inv_fr {p : Rat} (h : 0 < p) : fr p⁻¹ = .tup [.int p.den, .int p.num] := by
  have hn : 0 < p.num := num_pos.mpr h
  have hg : Int.gcd p.num (p.den : Int) = 1 := by
    have := p.reduced
    unfold Int.gcd
    rw [Int.natAbs_natCast]
    exact this
  have e1 : p⁻¹ = Rat.divInt p.den p.num := Rat.inv_def p
  have e2 : (p⁻¹).num = p.den := by
    rw [e1, Rat.num_divInt, hg, Int.sign_eq_one_of_pos hn, Int.one_mul]
    simp
  have e3 : ((p⁻¹).den : Int) = p.num := by
    rw [e1, Rat.den_divInt, if_neg (by omega), hg, Nat.div_one]
    omega
  unfold fr
  rw [e2, e3]
theorem unitR_eq {n : Nat} (h : 0 < n) : unitR n = 1 :: List.replicate (n - 1) 0 := by
  obtain ⟨n, rfl⟩ : ∃ m, n = m + 1 := ⟨n - 1, by omega⟩
  unfold unitR
  rw [List.range_succ_eq_map, List.map_cons, List.map_map, Nat.add_sub_cancel]
  congr 1
  refine List.ext_getElem (by simp) fun i h1 h2 => ?_
  rw [List.getElem_map, List.getElem_replicate]
  show (if i + 1 = 0 then (1 : Rat) else 0) = 0
  rw [if_neg (by omega)]
theorem usedR_len (m : List (List Rat)) (i n : Nat) : (usedR m i n).length ≤ n := by
  unfold usedR
  rw [List.length_map]
  exact Nat.le_trans (List.length_filter_le _ _) (by simp)
theorem usedT_succ (m : List (List Rat)) (k n : Nat) : usedT m (k + 1) n = usedT m k n ++ usedR m k n := by
  unfold usedT
  rw [List.range_succ, List.flatMap_append]; simp
theorem usedT_len (m : List (List Rat)) (k n : Nat) : (usedT m k n).length ≤ k * n := by
  induction k with
  | zero => simp [usedT]
  | succ k ih =>
    rw [usedT_succ, List.length_append, Nat.succ_mul]
    have := usedR_len m k n
    omega
theorem usedT_mem {m : List (List Rat)} {k n : Nat} : ∀ t ∈ usedT m k n, ∃ i j, i < k ∧ j < n ∧ t = pairT i j := by
  intro t ht
  obtain ⟨i, hi, h2⟩ := List.mem_flatMap.mp ht
  obtain ⟨j, hj, rfl⟩ := List.mem_map.mp h2
  exact ⟨i, j, List.mem_range.mp hi, List.mem_range.mp (List.mem_filter.mp hj).1, rfl⟩
theorem usedT_F (m : List (List Rat)) (k n : Nat) : isFs (usedT m k n) = true := isFs_mem.mpr fun t ht => by
  obtain ⟨i, j, _, _, rfl⟩ := usedT_mem t ht
  rfl
theorem ev_pos {C : Cn} {x : E} {e : Env} {q : Rat} (h : ev C x e = .ok (fr q) e) : ev C (.cmp .gt (.idx x (.int 0)) (.int 0)) e = .ok (.bl (decide (0 < q))) e := by
  have e1 : decide (0 < q) = decide (0 < q.num) := by rw [decide_eq_decide]; exact num_pos.symm
  rw [e1, x_ev_cmp, x_ev_idx, h, R.bind_ok, x_ev_int, R.bind_ok]
  simp only [num_at]
  rfl
theorem srs_E {C : Cn} {a : E} {e : Env} {l : List Rat} (h : ev C a e = .ok (frs l) e) : srs C (.seq a) e = .ok (l.map fr) e := by
  rw [srs, h, R.bind_ok]
  show R.ok (frzs (l.map fr)) e = _
  rw [frzs_frl]
theorem segF {C : Cn} (K : K02 C) {e : Env} {x y z : Nat} {A B D S : List (List Rat)} {F G : List Rat} {s : Rat} {tp : T} (b : Ba e x y z A B D) (h1 : gt e 1 = some tp) (c : Bb e x y F G s S) :
    ∃ e', (∀ r, exs C (.cons q26 (.cons q27 (.cons q28 (.cons q29 r)))) e = exs C r e') ∧ Ba e' x y z A B D ∧ gt e' 1 = some tp ∧ Bb e' x y F G s S := by
  have hsz : SZ = 16777216 := rfl
  have hio := K.io
  have ⟨x0, x4, y0, y4, z0, z4⟩ := (⟨b.x0, b.x4, b.y0, b.y4, b.z0, b.z4⟩ : 0 < x ∧ x ≤ 4 ∧ 0 < y ∧ y ≤ 4 ∧ 0 < z ∧ z ≤ 4)
  have kL := Lk.of x4 c.lF c.tF c.pF c.s0 c.ws
  have kR := Lk.of y4 c.lG c.tG c.pG c.s0 c.ws
  obtain ⟨L, hL⟩ : ∃ L, L = sclR F s := ⟨_, rfl⟩
  obtain ⟨R', hR⟩ : ∃ R', R' = sclR G s := ⟨_, rfl⟩
  obtain ⟨M, hM⟩ : ∃ M, M = crnT L R' := ⟨_, rfl⟩
  have lL : L.length = x := by rw [hL]; exact kL.len
  have lR : R'.length = y := by rw [hR]; exact kR.len
  have sM : Shp x y M := by rw [hM, ← lL, ← lR]; exact crnT_shp L R'
  have wM : TW 83 M := by rw [hM, hL, hR]; exact crnT_wt kL.uw kR.uw
  have nL : ∀ q ∈ L, 0 ≤ q := by rw [hL]; exact kL.nn
  have nR : ∀ q ∈ R', 0 ≤ q := by rw [hR]; exact kR.nn
  have wL : ∀ q ∈ L, Wt 9 q := by rw [hL]; exact kL.wt
  have tLR : tot L = tot R' := by rw [hL, hR, kL.tt, kR.tt]
  have h14 : ∀ {e}, Bb e x y F G s S → gt e 14 = some (tab M) := fun c => by rw [hM, hL, hR]; exact c.h14
  have h29 : ∀ {e}, Bb e x y F G s S → gt e 29 = some (frs L) := fun c => by rw [hL]; exact c.h29
  -- used
  obtain ⟨e1, s1, x1⟩ := asgX (C := C) (x := .lst .nil) (k := 16) (v := .lst true []) (e := e) (e1 := e) hio rfl (by rw [b.len]; decide)
  have b1 := b.ext x1 (by decide)
  have c1 := c.ext x1 (by decide)
  obtain ⟨e2, s2, b2, c2, p1, p16⟩ := ex_for_rg (C := C) (t := .nm 17) (a := .var 21) (b := .cons (.asg (.nm 16) (.bin .add (.var 16) (.lc [33] (.nm 33) (.rg1 (.var 22)) (.som (.cmp .gt (.idx (.idx (.ix 14 (.var 17)) (.var 33)) (.int 0)) (.int 0))) (.tup (.cons (.var 17) (.cons (.var 33) .nil)))))) .nil) (n := x) (e := e1) (e0 := e1)
    (fun k e => Ba e x y z A B D ∧ Bb e x y F G s S ∧ gt e 1 = some tp ∧ gt e 16 = some (.lst true (usedT M k y))) (ev_vi b1.h21) (by omega) ⟨b1, c1, x1.k h1, x1.on⟩ (by
      rintro k hk e ⟨b, c, p1, p16⟩
      have g := Ext.of (e := e) (i := 17) (.int k) (by rw [b.len]; decide)
      have b' := b.ext17 g rfl
      have c' := c.ext g (by decide)
      obtain ⟨e1, he1⟩ : ∃ e1, e1 = e.set 17 (some (.int k)) := ⟨_, rfl⟩
      rw [← he1] at g b' c'
      obtain ⟨e2, he2⟩ : ∃ e2, e2 = e1.set 16 (some (.lst false (usedT M k y))) := ⟨_, rfl⟩
      have g2 : Ext e1 e2 16 (.lst false (usedT M k y)) := by rw [he2]; exact Ext.of _ (by rw [b'.len]; decide)
      have b2 := b'.ext g2 (by decide)
      have c2 := c'.ext g2 (by decide)
      have rd : ev C (.var 16) e1 = .ok (.lst false (usedT M k y)) e2 := by rw [he2, x_ev_var]; exact rd_O (g.k p16) (usedT_F _ _ _)
      have p17 : gt e2 17 = some (.int k) := g2.k g.on
      have hkM : k < M.length := by rw [sM.1]; exact hk
      have hlc := cAc (fun k : Nat => T.int k) (C := C) (s := .rg1 (.var 22)) (c := .cmp .gt (.idx (.idx (.ix 14 (.var 17)) (.var 33)) (.int 0)) (.int 0)) (x := .tup (.cons (.var 17) (.cons (.var 33) .nil))) (i := 33) (e := e2) (l := List.range y) hio (fun j => decide (0 < at2 M k j)) (pairT k) (srs_rg (ev_vi b2.h22) (by omega)) (by rw [b2.len]; decide) (own_none (b2.nn 33 (by decide))) (by simp; omega) (fun j hj e' g3 => by
        have hj := List.mem_range.mp hj
        exact ev_pos (ev_cell (m := M) (g3.k (h14 c2)) (ev_vi (g3.k p17)) (ev_vi g3.on) hkM (by rw [sM.row hk]; exact hj))) (fun j hj _ e' g3 => by
        rw [x_ev_tup, evs2 (ev_vi (g3.k p17)) (ev_vi g3.on)]; rfl)
      have hadd : bin .add (.lst false (usedT M k y)) (.lst true (usedR M k y)) = some (.lst true (usedT M (k + 1) y)) := by
        rw [usedT_succ]
        have l1 := usedT_len M k y
        have l2 := usedR_len M k y
        have : k * y ≤ 4 * 4 := Nat.mul_le_mul (by omega) y4
        show (if _ then _ else _) = _
        rw [if_pos (by omega)]
      have hv : ev C (.bin .add (.var 16) (.lc [33] (.nm 33) (.rg1 (.var 22)) (.som (.cmp .gt (.idx (.idx (.ix 14 (.var 17)) (.var 33)) (.int 0)) (.int 0))) (.tup (.cons (.var 17) (.cons (.var 33) .nil))))) e1 = .ok (.lst true (usedT M (k + 1) y)) e2 := by
        rw [x_ev_bin, rd, R.bind_ok, hlc, R.bind_ok]
        show R.of (bin .add (.lst false (usedT M k y)) (.lst true (usedR M k y))) e2 = _
        rw [hadd]; rfl
      obtain ⟨e3, s3, g3⟩ := asgX (k := 16) hio hv (by rw [b2.len]; decide)
      refine ⟨e3, ?_, b2.ext g3 (by decide), c2.ext g3 (by decide), g3.k (g2.k (g.k p1)), g3.on⟩
      rw [asg_nm hio (by rw [b.len]; decide), R.bind_ok, ← he1, exs_nx s3]; rfl)
  -- the kernel
  have hker : ev C (.prim .tuple (.lc [17] (.nm 17) (.rg1 (.var 21)) .non (.ife (.cmp .gt (.idx (.ix 29 (.var 17)) (.int 0)) (.int 0)) (.prim .tuple (.lc [35] (.nm 35) (.seq (.ix 14 (.var 17))) .non (.call 40 (.cons (.var 35) (.cons (.tup (.cons (.idx (.ix 29 (.var 17)) (.int 1)) (.cons (.idx (.ix 29 (.var 17)) (.int 0)) .nil))) .nil))))) (.bin .add (.tup (.cons (.tup (.cons (.int 1) (.cons (.int 1) .nil))) .nil)) (.bin .mul (.tup (.cons (.tup (.cons (.int 0) (.cons (.int 1) .nil))) .nil)) (.bin .sub (.var 22) (.int 1))))))) e2 = .ok (tab (crnK L R')) e2 := by
    have hgoal : crnK L R' = (List.range x).map fun i => if 0 < L.getD i 0 then (crnR L R' i).map fun q => q * (L.getD i 0)⁻¹ else unitR y := by unfold crnK; rw [lL, lR]
    rw [hgoal]
    refine tupT (g := fun i => if 0 < L.getD i 0 then (crnR L R' i).map fun q => q * (L.getD i 0)⁻¹ else unitR y) (cR hio _ (ev_vi b2.h21) (by rw [b2.len]; decide) (ownO b2.h17) (by omega) fun i hi e' g => ?_)
    have hiL : i < L.length := by omega
    have hiM : i < M.length := by rw [sM.1]; exact hi
    have i1 := ev_vi (C := C) g.on
    have k29 : ∀ {e''}, gt e'' 29 = some (frs L) → ev C (.var 17) e'' = .ok (.int i) e'' → ev C (.ix 29 (.var 17)) e'' = .ok (fr (L.getD i 0)) e'' := fun h h2 => ev_ixQ h h2 hiL
    have k1 := k29 (g.k (h29 c2)) i1
    have wLi := wL _ (getD_mem hiL)
    have hcond := ev_pos k1
    have hrow : M.getD i [] = crnR L R' i := by rw [hM]; exact crnT_at hiL
    have hsrc := srs_E (ev_ixT (m := M) (g.k (h14 c2)) i1 hiM)
    have wRow : ∀ q ∈ M.getD i [], Wt 83 q := wM _ (getDD_mem hiM)
    rw [hrow] at hsrc wRow
    have lRow := crnR_len L R' i
    by_cases hp : 0 < L.getD i 0
    · rw [decide_eq_true hp] at hcond
      rw [if_pos hp, x_ev_ife, hcond, R.bind_ok]
      show ev C (.prim .tuple _) e' = _
      refine tupQ (g := fun q : Rat => q * (L.getD i 0)⁻¹) (cA fr hio _ hsrc (by rw [g.len, b2.len]; decide) (own_none (g.k (b2.nn 35 (by decide)))) (by omega) fun q hq e'' g2 => ?_)
      have k2 := k29 (e'' := e'') (g2.k (g.k (h29 c2))) (ev_vi (g2.k g.on))
      have wi := wLi.inv (by intro h; rw [h] at hp; exact absurd hp (by decide))
      have hc := K.ti q (L.getD i 0)⁻¹ ((wRow q hq).mono (by decide)) (wi.mono (by decide))
      have hinv := inv_fr hp
      have k3 : ev C (.tup (.cons (.idx (.ix 29 (.var 17)) (.int 1)) (.cons (.idx (.ix 29 (.var 17)) (.int 0)) .nil))) e'' = .ok (fr (L.getD i 0)⁻¹) e'' := by
        rw [hinv]
        generalize L.getD i 0 = p at *
        have z1 : ev C (.idx (.ix 29 (.var 17)) (.int 1)) e'' = .ok (.int p.den) e'' := by
          rw [x_ev_idx, k2, R.bind_ok, x_ev_int, R.bind_ok]; rfl
        have z0 : ev C (.idx (.ix 29 (.var 17)) (.int 0)) e'' = .ok (.int p.num) e'' := by
          rw [x_ev_idx, k2, R.bind_ok, x_ev_int, R.bind_ok]; rfl
        rw [x_ev_tup, evs2 z1 z0]; rfl
      exact ev_c2 (ev_v g2.on (isF_fr q)) k3 (isF_fr q) (isF_fr _) hc
    · rw [decide_eq_false hp] at hcond
      rw [if_neg hp, x_ev_ife, hcond, R.bind_ok, unitR_eq y0]
      show ev C (.bin .add (.tup (.cons (.tup (.cons (.int 1) (.cons (.int 1) .nil))) .nil)) (.bin .mul (.tup (.cons (.tup (.cons (.int 0) (.cons (.int 1) .nil))) .nil)) (.bin .sub (.var 22) (.int 1)))) e' = _
      have u1 : ev C (.tup (.cons (.tup (.cons (.int 1) (.cons (.int 1) .nil))) .nil)) e' = .ok (.tup [fr 1]) e' := rfl
      have u2 : ev C (.tup (.cons (.tup (.cons (.int 0) (.cons (.int 1) .nil))) .nil)) e' = .ok (.tup [fr 0]) e' := rfl
      have u3 : ev C (.bin .sub (.var 22) (.int 1)) e' = .ok (.int (y - 1 : Nat)) e' := by
        rw [x_ev_bin, ev_vi (g.k b2.h22), R.bind_ok, x_ev_int, R.bind_ok, bin_sub_i, R.of_some]
        congr 2
        omega
      have u4 := mul_tup (t := fr 0) (n := y - 1) rfl (by omega)
      have u5 : frs (1 :: List.replicate (y - 1) 0) = .tup ([fr 1] ++ List.replicate (y - 1) (fr 0)) := by
        unfold frs
        rw [List.map_cons, List.map_replicate]; rfl
      rw [x_ev_bin, u1, R.bind_ok, x_ev_bin, u2, R.bind_ok, u3, R.bind_ok, u4, R.of_some, R.bind_ok, add_tup (by simp; omega), u5]; rfl
  obtain ⟨e3, s3, x3⟩ := asgX (k := 18) hio hker (by rw [b2.len]; decide)
  have b3 := b2.ext x3 (by decide)
  have c3 := c2.ext x3 (by decide)
  -- the same
  have wK : TW 92 (crnK L R') ∧ Shp x y (crnK L R') := by
    refine ⟨fun r hr q hq => ?_, by unfold crnK; simp [lL], fun r hr => ?_⟩
    · obtain ⟨i, hi, rfl⟩ := List.mem_map.mp hr
      have hiL := List.mem_range.mp hi
      by_cases hp : 0 < L.getD i 0
      · rw [if_pos hp] at hq
        obtain ⟨p, hp2, rfl⟩ := List.mem_map.mp hq
        have h1 : Wt 83 p := by
          have : crnR L R' i ∈ M := by
            rw [← crnT_at hiL, ← hM]
            exact getDD_mem (by rw [sM.1]; omega)
          exact wM _ this p hp2
        have h2 := (wL _ (getD_mem hiL)).inv (by intro h; rw [h] at hp; exact absurd hp (by decide))
        exact h1.mul h2
      · rw [if_neg hp] at hq
        obtain ⟨k, _, rfl⟩ := List.mem_map.mp hq
        split
        · exact Wt.one.mono (by decide)
        · exact Wt.zero.mono (by decide)
    · obtain ⟨i, hi, rfl⟩ := List.mem_map.mp hr
      split
      · rw [List.length_map, crnR_len, lR]
      · simp [unitR, lR]
  have d1 := K.pu x y M sM x4 y4
  have d2 := K.ko M (by rw [sM.1]; omega) (fun r hr => ⟨by rw [sM.2 r hr]; omega, sM.sums wM (by omega) r hr⟩)
  have d3 := K.co L (crnK L R') (by omega) (by rw [lL, wK.2.1]; exact Nat.le_refl _) (fun q hq => (wL q hq).mono (by decide)) (fun r hr => ⟨by rw [wK.2.2 r hr]; omega, fun q hq => (wK.1 r hr q hq).mono (by decide)⟩)
  rw [hM, ker_crn nL nR tLR] at d2
  rw [coup_crn nL, ← hM] at d3
  rw [← hM] at d2
  have k1 : ev C (.call 31 (.cons (.var 14) .nil)) e3 = .ok (.lst true (usedT M x y)) e3 := ev_c1 (ev_v (h14 c3) (isF_tab M)) (by rw [frz_tab]; exact d1)
  have k2 : ev C (.call 29 (.cons (.var 14) .nil)) e3 = .ok (tab (crnK L R')) e3 := ev_c1 (ev_v (h14 c3) (isF_tab M)) (by rw [frz_tab]; exact d2)
  have k3 : ev C (.call 30 (.cons (.var 29) (.cons (.var 18) .nil))) e3 = .ok (tab M) e3 := ev_c2 (ev_v (h29 c3) (isF_frs L)) (ev_v x3.on (isF_tab _)) (isF_frs L) (isF_tab _) d3
  obtain ⟨V, hV⟩ : ∃ V, V = [.lst false (usedT M x y), tab (crnK L R'), tab M] := ⟨_, rfl⟩
  have hVF : isFs V = true := by rw [hV]; simp [isFs, isF, usedT_F]
  have hz1 : frzs [.lst true (usedT M x y), tab (crnK L R'), tab M] = V := by
    rw [frzs, frz_lstO (usedT_F _ _ _), frzs_of _ (by simp [isFs]), hV]
  have k6 := ev_lstX (evsC k1 (evsC k2 (evsC k3 (x_evs_nil (C := C) (e := e3)))))
  rw [hz1] at k6
  obtain ⟨e4, he4⟩ : ∃ e4, e4 = e3.set 16 (some (.lst false (usedT M x y))) := ⟨_, rfl⟩
  have x4' : Ext e3 e4 16 (.lst false (usedT M x y)) := by rw [he4]; exact Ext.of _ (by rw [b3.len]; decide)
  have rd : ev C (.var 16) e3 = .ok (.lst false (usedT M x y)) e4 := by rw [he4, x_ev_var]; exact rd_O (x3.k p16) (usedT_F _ _ _)
  have b4 := b3.ext x4' (by decide)
  have c4 := c3.ext x4' (by decide)
  have m6 := ev_lstX (evsC rd (evsC (ev_v (C := C) (x4'.k x3.on) (isF_tab _)) (evsC (ev_v (C := C) (h14 c4) (isF_tab _)) (x_evs_nil (C := C) (e := e4)))))
  rw [← hV, frzs_of V hVF] at m6
  have hVl : Vl 10 (.lst false V) := by
    refine (Vl_lst (k := 3) (fun t ht => ?_) (by rw [hV]; simp)).mono (by decide)
    rw [hV] at ht
    simp only [List.mem_cons, List.not_mem_nil, or_false] at ht
    rcases ht with rfl | rfl | rfl
    · refine (Vl_lst (k := 1) (fun t ht => ?_) ?_).mono (by decide)
      · obtain ⟨i, j, hi, hj, rfl⟩ := usedT_mem t ht
        refine Vl_tup (fun u hu => ?_) (by simp)
        simp only [List.mem_cons, List.not_mem_nil, or_false] at hu
        rcases hu with rfl | rfl
        · exact Vl_small (by omega)
        · exact Vl_small (by omega)
      · have := usedT_len M x y
        have : x * y ≤ 4 * 4 := Nat.mul_le_mul x4 y4
        omega
    · exact Vl_tab (fun r hr => ⟨fun q hq => (wK.1 r hr q hq).mono (by decide), by rw [wK.2.2 r hr]; omega⟩) (by rw [wK.2.1]; omega)
    · exact Vl_tab (fun r hr => ⟨fun q hq => (wM r hr q hq).mono (by decide), by rw [sM.2 r hr]; omega⟩) (by rw [sM.1]; omega)
  have s4 := same_if K.sm k6 m6 (frz_lstO hVF true) (frz_lstO hVF true) hVl
  refine ⟨e4, fun r => ?_, b4, x4'.k (x3.k p1), c4⟩
  have s1 : ex C q26 e = .ok .nx e1 := s1
  have s2 : ex C q27 e1 = .ok .nx e2 := s2
  have s3 : ex C q28 e2 = .ok .nx e3 := s3
  have s4 : ex C q29 e3 = .ok .nx e4 := s4
  rw [exs_nx s1, exs_nx s2, exs_nx s3, exs_nx s4]
end Iv
set_option Elab.async false
set_option linter.all false
set_option maxRecDepth 100000
set_option exponentiation.threshold 20000
namespace Iv
open PySem Q02
theorem for_all {f : T → Env → R Fl} {I : Env → Prop} : ∀ (its : List T), (∀ t ∈ its, ∀ e, I e → ∃ e', f t e = .ok .nx e' ∧ I e') → ∀ e, I e → ∃ e', forLoop f its e = .ok .nx e' ∧ I e'
  | [], _, e, h => ⟨e, rfl, h⟩
  | t :: its, hb, e, h => by
    obtain ⟨e1, h1, h2⟩ := hb t List.mem_cons_self e h
    obtain ⟨e2, h3, h4⟩ := for_all its (fun u hu => hb u (List.mem_cons_of_mem _ hu)) e1 h2
    exact ⟨e2, by rw [for_nx h1, h3], h4⟩
theorem ex_for_all {C : Cn} {t : Tg} {s : Sr} {b : Ss} {e e0 : Env} {its : List T} (I : Env → Prop) (hs : srs C s e = .ok its e0) (h0 : I e0) (hb : ∀ u ∈ its, ∀ e, I e → ∃ e', ((asgTg C t u e).bind fun _ e => exs C b e) = .ok .nx e' ∧ I e') :
    ∃ e', ex C (.for t s b) e = .ok .nx e' ∧ I e' := by
  obtain ⟨e', h1, h2⟩ := for_all (f := fun x e => (asgTg C t x e).bind fun _ e => exs C b e) its hb e0 h0
  exact ⟨e', ex_for hs h1, h2⟩
theorem cp_same {f g : List T → Cr} (hf : IsCp f) (hg : IsCp g) {a b : List Rat} {t : T} (ht : GE t) (la : a.length ≤ 4) (lb : b.length ≤ 4) : ∃ z, f [frs a, frs b, t] = ok0 (.bl z) ∧ g [frs a, frs b, t] = ok0 (.bl z) := by
  obtain ⟨f1, f2⟩ := hf a b t ht.1 la lb ht.2
  obtain ⟨g1, g2⟩ := hg a b t ht.1 la lb ht.2
  by_cases h : Fine a b t
  · obtain ⟨m, h1, h2, h3⟩ := h
    exact ⟨_, f1 m h1 h2 h3, g1 m h1 h2 h3⟩
  · exact ⟨_, f2 h, g2 h⟩
theorem GE_tab {x y : Nat} {m : List (List Rat)} (hs : Shp x y m) (hx : x ≤ 100) (hy : y ≤ 100) (hw : TW 900 m) : GE (tab m) := ⟨(shp_Vl hs hx hy (hw.mono (by decide))).mono (by decide), fun m' h => by cases tab_inj h; exact hw⟩
theorem segG {C : Cn} (K : K02 C) {e : Env} {x y z : Nat} {A B D S : List (List Rat)} {F G : List Rat} {s : Rat} {tp : T} (b : Ba e x y z A B D) (h1 : gt e 1 = some tp) (ht : Tape tp) (c : Bb e x y F G s S) :
    ∃ e', (∀ r, exs C (.cons q30 (.cons q31 r)) e = exs C r e') ∧ Ba e' x y z A B D ∧ Bb e' x y F G s S := by
  have hsz : SZ = 16777216 := rfl
  have hio := K.io
  have ⟨x0, x4, y0, y4, z0, z4⟩ := (⟨b.x0, b.x4, b.y0, b.y4, b.z0, b.z4⟩ : 0 < x ∧ x ≤ 4 ∧ 0 < y ∧ y ≤ 4 ∧ 0 < z ∧ z ≤ 4)
  have kL := Lk.of x4 c.lF c.tF c.pF c.s0 c.ws
  have kR := Lk.of y4 c.lG c.tG c.pG c.s0 c.ws
  obtain ⟨M, hM⟩ : ∃ M, M = crnT (sclR F s) (sclR G s) := ⟨_, rfl⟩
  have sM : Shp x y M := by
    have := crnT_shp (sclR F s) (sclR G s)
    rwa [kL.len, kR.len, ← hM] at this
  have wM : TW 83 M := by rw [hM]; exact crnT_wt kL.uw kR.uw
  obtain ⟨N, hN⟩ : ∃ N, N = outer F G := ⟨_, rfl⟩
  have sN : Shp x y N := by
    have := outer_shp F G
    rwa [c.lF, c.lG, ← hN] at this
  have wN : TW 10 N := by rw [hN]; exact outer_wt (fun q hq => (c.pF q hq).2) (fun q hq => (c.pG q hq).2)
  have h14 : ∀ {e}, Bb e x y F G s S → gt e 14 = some (tab M) := fun c => by rw [hM]; exact c.h14
  have h15 : ∀ {e}, Bb e x y F G s S → gt e 15 = some (tab N) := fun c => by rw [hN]; exact c.h15
  -- the values
  obtain ⟨u1, tp1, e1, g1, t1, x1, v1⟩ := ev_be K.be h1 (by rw [b.len]; decide) ht sM x0 y0 x4 y4 (wM.mono (by decide)) (h14 c)
  have b1 := b.ext x1 (by decide)
  have c1 := c.ext x1 (by decide)
  obtain ⟨u2, tp2, e2, g2, t2, x2, v2⟩ := ev_be K.be x1.on (by rw [b1.len]; decide) t1 sM x0 y0 x4 y4 (wM.mono (by decide)) (h14 c1)
  have b2 := b1.ext x2 (by decide)
  have c2 := c1.ext x2 (by decide)
  obtain ⟨u3, tp3, e3, g3, t3, x3, v3⟩ := ev_be K.be x2.on (by rw [b2.len]; decide) t2 sN x0 y0 x4 y4 (wN.mono (by decide)) (h15 c2)
  have b3 := b2.ext x3 (by decide)
  have c3 := c2.ext x3 (by decide)
  have hev := evsC (ev_v (C := C) (h14 c) (isF_tab _)) (evsC (ev_v (C := C) (h15 c) (isF_tab _)) (evsC v1 (evsC v2 (evsC v3 (x_evs_nil (C := C) (e := e3))))))
  have hGE : ∀ t ∈ [tab M, tab N, u1, u2, u3], GE t := by
    intro t ht
    simp only [List.mem_cons, List.not_mem_nil, or_false] at ht
    rcases ht with rfl | rfl | rfl | rfl | rfl
    · exact GE_tab sM (by omega) (by omega) (wM.mono (by decide))
    · exact GE_tab sN (by omega) (by omega) (wN.mono (by decide))
    · exact g1
    · exact g2
    · exact g3
  have hFs : isFs [tab M, tab N, u1, u2, u3] = true := isFs_mem.mpr fun t ht => (hGE t ht).1.F
  have hsrs : srs C (.seq (.tup (.cons (.var 14) (.cons (.var 15) (.cons (.cio 53 1 (.cons (.var 14) .nil)) (.cons (.cio 53 1 (.cons (.var 14) .nil)) (.cons (.cio 53 1 (.cons (.var 15) .nil)) .nil))))))) e = .ok [tab M, tab N, u1, u2, u3] e3 := by
    rw [srs, x_ev_tup, hev, R.bind_ok, R.bind_ok]
    show R.ok (frzs [tab M, tab N, u1, u2, u3]) e3 = _
    rw [frzs_of _ hFs]
  obtain ⟨e4, s4, b4, c4⟩ := ex_for_all (C := C) (t := .nm 19) (b := .cons (.ife (.not (.call 35 (.cons (.call 17 (.cons (.var 29) (.cons (.var 30) (.cons (.var 19) .nil)))) (.cons (.call 51 (.cons (.var 29) (.cons (.var 30) (.cons (.var 19) .nil)))) .nil)))) (.cons (.ret (.bl false)) .nil) .nil) .nil) (fun e => Ba e x y z A B D ∧ Bb e x y F G s S) hsrs ⟨b3, c3⟩ (by
    rintro u hu e ⟨b, c⟩
    have hg := hGE u hu
    have g := Ext.of (e := e) (i := 19) u (by rw [b.len]; decide)
    obtain ⟨e1, he1⟩ : ∃ e1, e1 = e.set 19 (some u) := ⟨_, rfl⟩
    rw [← he1] at g
    have b1 := b.ext g (by decide)
    have c1 := c.ext g (by decide)
    obtain ⟨w, q1, q2⟩ := cp_same K.cp K.li (a := sclR F s) (b := sclR G s) hg (by rw [kL.len]; exact x4) (by rw [kR.len]; exact y4)
    have k1 : ev C (.call 17 (.cons (.var 29) (.cons (.var 30) (.cons (.var 19) .nil)))) e1 = .ok (.bl w) e1 := ev_c3 (ev_v c1.h29 (isF_frs _)) (ev_v c1.h30 (isF_frs _)) (ev_v g.on hg.1.F) (isF_frs _) (isF_frs _) hg.1.F q1
    have k2 : ev C (.call 51 (.cons (.var 29) (.cons (.var 30) (.cons (.var 19) .nil)))) e1 = .ok (.bl w) e1 := ev_c3 (ev_v c1.h29 (isF_frs _)) (ev_v c1.h30 (isF_frs _)) (ev_v g.on hg.1.F) (isF_frs _) (isF_frs _) hg.1.F q2
    refine ⟨e1, ?_, b1, c1⟩
    rw [asg_nm hio (by rw [b.len]; decide), R.bind_ok, ← he1, exs_nx (same_if K.sm k1 k2 rfl rfl Vl_bl)]; rfl)
  -- the checks
  have d1 := K.ct x y A b.sA (by omega) (by omega) (b.wA.mono (by decide))
  have d2 := K.ck y y S c.kS.shp (by omega) (by omega) (c.wS.mono (by decide)) c.kS.row
  have d3 := K.cw (sclR F s) kL.nn kL.sm (fun h => by have := kL.len; rw [h, List.length_nil] at this; omega) (by rw [kL.len]; omega)
  have isn : ∀ {a : E}, ev C a e4 = .ok .non e4 → ev C (.isn true a) e4 = .ok (.bl false) e4 := fun h => by rw [x_ev_isn, h]; rfl
  have k1 : ev C (.call 9 (.cons (.var 24) .nil)) e4 = .ok .non e4 := ev_c1 (ev_v b4.h24 (isF_tab A)) (by rw [frz_tab]; exact d1)
  have k2 : ev C (.call 14 (.cons (.var 8) .nil)) e4 = .ok .non e4 := ev_c1 (ev_v c4.h8 (isF_tab S)) (by rw [frz_tab]; exact d2)
  have k3 : ev C (.call 11 (.cons (.var 29) .nil)) e4 = .ok .non e4 := ev_c1 (ev_v c4.h29 (isF_frs _)) (by rw [frz_frs]; exact d3)
  have s5 := ex_ife_ret (x := .bl false) (u := .bl false) (ev_or2 (isn k1) fun _ => ev_or2 (isn k2) fun _ => isn k3) rfl
  refine ⟨e4, fun r => ?_, b4, c4⟩
  have s4 : ex C q30 e = .ok .nx e4 := s4
  have s5 : ex C q31 e4 = .ok .nx e4 := s5
  rw [exs_nx s4, exs_nx s5]
end Iv
set_option Elab.async false
set_option linter.all false
set_option maxRecDepth 100000
set_option exponentiation.threshold 20000
namespace Iv
open PySem Q02
theorem Vl_len {k : Nat} {ts : List T} (h : Vl k (.tup ts)) : ts.length ≤ 1000 := by
  have h2 := h.2
  unfold szs at h2
  exact of_decide_eq_true (Bool.and_eq_true_iff.mp h2).2
theorem srs_O {C : Cn} {e : Env} {j : Nat} {V : List T} (h : gt e j = some (.lst true V)) (hf : isFs V = true) : srs C (.seq (.var j)) e = .ok V (e.set j (some (.lst false V))) := by
  rw [srs, x_ev_var, rd_O h hf, R.bind_ok]
  show R.ok (frzs V) _ = _
  rw [frzs_of _ hf]
def QS (u : T) : Prop := Vl 1 u ∧ ∀ q, u = fr q → Wt 20 q
def RS (v : T) : Prop := Vl 58 v ∧ ∀ l, v = frs l → l.length ≤ 8 ∧ ∀ q ∈ l, Wt 20 q
theorem QS_fr {q : Rat} (h : Wt 20 q) : QS (fr q) := ⟨Vl_fr (h.mono (by decide)), fun p e => by rw [← fr_inj e]; exact h⟩
theorem RS.tup {us : List T} (h : ∀ u ∈ us, QS u) (hl : us.length ≤ 8) : RS (.tup us) := by
  refine ⟨(Vl_tup (fun u hu => (h u hu).1) (by omega)).mono (by decide), fun l e => ?_⟩
  have e : us = l.map fr := by injection e
  refine ⟨by rw [e, List.length_map] at hl; exact hl, fun q hq => ?_⟩
  exact (h (fr q) (by rw [e]; exact List.mem_map_of_mem hq)).2 q rfl
theorem RS_frs {l : List Rat} (h : ∀ q ∈ l, Wt 20 q) (hl : l.length ≤ 8) : RS (frs l) := RS.tup (fun u hu => by
  obtain ⟨q, hq, rfl⟩ := List.mem_map.mp hu
  exact QS_fr (h q hq)) (by rw [List.length_map]; exact hl)
theorem RS_lst {us : List T} (h : ∀ u ∈ us, QS u) (hl : us.length ≤ 8) : RS (.lst false us) := ⟨(Vl_lst (fun u hu => (h u hu).1) (by omega)).mono (by decide), fun l e => by cases e⟩
theorem RS.sums {l : List Rat} (h : RS (frs l)) : SumOk l ∧ ∀ q ∈ l, Sm q := by
  obtain ⟨h1, h2⟩ := h.2 l rfl
  exact SumOk.of h2 (by omega)
theorem filter_all {α : Type} (p : α → Bool) (l : List α) : (l.filter fun u => !p u).isEmpty = l.all p := by
  induction l with
  | nil => rfl
  | cons u us ih =>
    rw [List.filter_cons, List.all_cons, ← ih]
    cases p u <;> rfl
theorem plain_ev {C : Cn} (K : K02 C) {e : Env} {v : T} (hl : e.length = 38) (h35 : gt e 35 = none) (h : gt e 19 = some v) (hv : Vl 58 v) :
    ev C (.and (.isiv 19 .tuple) (.cmp .eq (.lc [35] (.nm 35) (.seq (.var 19)) (.som (.not (.call 52 (.cons (.var 35) .nil)))) (.var 35)) (.lst .nil))) e = .ok (.bl (rowB v)) e := by
  have h0 := ev_istup (C := C) h hv.1
  by_cases ht : isTup v = true
  · obtain ⟨us, rfl⟩ := isTup_iff.mp ht
    obtain ⟨h1, h2, h3⟩ := Vl.tup (k := 57) hv
    have hlc := cAc id (C := C) (s := .seq (.var 19)) (c := .not (.call 52 (.cons (.var 35) .nil))) (x := .var 35) (i := 35) (e := e) (l := us) K.io (fun u => !frB u) id (srs_T h h3) (by rw [hl]; decide) (own_none h35) (Vl_len hv) (fun u hu e' g => by
      refine ev_not2 (ev_c1 (ev_v g.on (h1 u hu).F) ?_)
      rw [show frz (id u) = u from frz_of _ (h1 u hu).F]
      exact K.gd u ((h1 u hu).1.mono (by decide))) (fun u hu _ e' g => ev_v g.on (h1 u hu).F)
    rw [List.map_id] at hlc
    have h4 := ev_eq_nil hlc fun u hu => (h1 u (List.mem_filter.mp hu).1).1.mono (by decide)
    rw [filter_all] at h4
    have := ev_and2 h0 fun _ => h4
    exact this
  · have ht := Bool.eq_false_iff.mpr ht
    have hr : rowB v = false := by cases v <;> first | rfl | cases ht
    rw [hr]
    rw [ht] at h0
    exact ev_and2 (b := true) h0 fun h => by cases h
theorem weights_ev {C : Cn} (K : K02 C) {e : Env} {v : T} (hl : e.length = 38) (h35 : gt e 35 = none) (h : gt e 19 = some v) (hv : Vl 58 v) (h9 : gt e 9 = some (.bl (rowB v))) :
    ev C (.and (.var 9) (.cmp .eq (.lc [35] (.nm 35) (.seq (.var 19)) (.som (.cmp .lt (.ix 35 (.int 0)) (.int 0))) (.var 35)) (.lst .nil))) e = .ok (.bl (wtB v)) e := by
  have h0 : ev C (.var 9) e = .ok (.bl (rowB v)) e := ev_v h9 rfl
  by_cases ht : rowB v = true
  · obtain ⟨l, rfl⟩ := rowB_iff.mp ht
    obtain ⟨h1, h2, h3⟩ := Vl.tup (k := 57) hv
    have hlen : l.length ≤ 1000 := by have := Vl_len hv; rwa [List.length_map] at this
    have hlc := cAc fr (C := C) (s := .seq (.var 19)) (c := .cmp .lt (.ix 35 (.int 0)) (.int 0)) (x := .var 35) (i := 35) (e := e) (l := l) K.io (fun q => !decide (0 ≤ q)) fr (srs_frs h) (by rw [hl]; decide) (own_none h35) hlen (fun q hq e' g => by
      have e1 : (!decide (0 ≤ q)) = decide (q.num < 0) := by
        rw [← decide_not, decide_eq_decide, ← num_nn]; omega
      rw [e1, x_ev_cmp, x_ev_ix, has, g.on, x_ev_int, R.bind_ok, g.on]
      simp only [num_at]
      rfl) (fun q hq _ e' g => ev_v g.on (isF_fr q))
    have h4 := ev_eq_nil hlc fun u hu => by
      obtain ⟨q, hq, rfl⟩ := List.mem_map.mp hu
      exact (h1 (fr q) (List.mem_map_of_mem (List.mem_filter.mp hq).1)).1.mono (by decide)
    rw [List.isEmpty_map, filter_all] at h4
    have h5 := ev_and2 h0 fun _ => h4
    have e2 : wtB (frs l) = (rowB (frs l) && l.all fun q => decide (0 ≤ q)) := by
      show (rowB (frs l) && (l.map fr).all nonneg) = _
      rw [List.all_map]
      congr 2
      funext q
      exact nonneg_fr q
    rw [e2]; exact h5
  · have ht := Bool.eq_false_iff.mpr ht
    have hw : wtB v = false := by unfold wtB; rw [ht]; rfl
    rw [hw]
    rw [ht] at h0
    exact ev_and2 (b := true) h0 fun h => by cases h
theorem chances_ev {C : Cn} (K : K02 C) {e : Env} {v : T} (h : gt e 19 = some v) (hv : RS v) (h31 : gt e 31 = some (.bl (wtB v))) :
    ev C (.and (.var 31) (.cmp .eq (.call 41 (.cons (.var 19) .nil)) (.tup (.cons (.int 1) (.cons (.int 1) .nil))))) e = .ok (.bl (chB v)) e := by
  have h0 : ev C (.var 31) e = .ok (.bl (wtB v)) e := ev_v h31 rfl
  by_cases ht : wtB v = true
  · obtain ⟨l, rfl, _⟩ := wtB_iff.mp ht
    obtain ⟨s1, s2⟩ := hv.sums
    have hc := K.to l (frs l) (.inr rfl) s1 s2
    have h1 : ev C (.cmp .eq (.call 41 (.cons (.var 19) .nil)) (.tup (.cons (.int 1) (.cons (.int 1) .nil)))) e = .ok (.bl (decide (tot l = 1))) e := by
      rw [x_ev_cmp, ev_c1 (ev_v h (isF_frs l)) (by rw [frz_frs]; exact hc), R.bind_ok]
      show boolR (cmp .eq (fr (tot l)) (.tup [.int 1, .int 1])) e = _
      rw [cmpEq rfl rfl, eqT_one]; rfl
    have h5 := ev_and2 h0 fun _ => h1
    rw [chB_frs]; exact h5
  · have ht := Bool.eq_false_iff.mpr ht
    have hw : chB v = false := by unfold chB; rw [ht]; rfl
    rw [hw]
    rw [ht] at h0
    exact ev_and2 (b := true) h0 fun h => by cases h
theorem segI {C : Cn} (K : K02 C) {e : Env} {x y z : Nat} {A B D S : List (List Rat)} {F G : List Rat} {s : Rat} (b : Ba e x y z A B D) (c : Bb e x y F G s S) :
    ∃ e', (∀ r, exs C (.cons q32 (.cons q33 r)) e = exs C r e') ∧ Ba e' x y z A B D ∧ Bb e' x y F G s S := by
  have hsz : SZ = 16777216 := rfl
  have hio := K.io
  have ⟨x0, x4, y0, y4, z0, z4⟩ := (⟨b.x0, b.x4, b.y0, b.y4, b.z0, b.z4⟩ : 0 < x ∧ x ≤ 4 ∧ 0 < y ∧ y ≤ 4 ∧ 0 < z ∧ z ≤ 4)
  have kL := Lk.of x4 c.lF c.tF c.pF c.s0 c.ws
  have h0A : 0 < A.length := by rw [b.sA.1]; exact x0
  have hQF : ∀ u ∈ F.map fr, QS u := fun u hu => by
    obtain ⟨q, hq, rfl⟩ := List.mem_map.mp hu
    exact QS_fr ((c.pF q hq).2.mono (by decide))
  have lF : (F.map fr).length ≤ 4 := by rw [List.length_map, c.lF]; exact x4
  obtain ⟨cc, hcc⟩ : ∃ cc, cc = cutT (F.map fr) (some 1) none := ⟨_, rfl⟩
  have lc : cc.length ≤ 4 := by rw [hcc]; exact Nat.le_trans cut_len lF
  have mc : ∀ u ∈ cc, QS u := fun u hu => hQF u (cut_mem u (by rw [← hcc]; exact hu))
  have sc : slice (frs F) (some 1) none = some (.tup cc) := by rw [hcc]; exact slice_tup (isFs_frs F)
  -- the values
  have k1 := ev_v (C := C) c.h27 (isF_frs F)
  have k2 := ev_v (C := C) c.h29 (isF_frs _)
  have k3 := ev_ixT (C := C) (k := 0) (x := .int 0) b.h24 rfl h0A
  have k4 : ev C (.primv .list 27) e = .ok (.lst true (F.map fr)) e := by
    rw [x_ev_primv, c.h27]
    simp only [prim_list_frs]; rfl
  have fm1 : fr (-1) = .tup [.int (-1), .int 1] := rfl
  have k5 : ev C (.bin .add (.var 27) (.tup (.cons (.tup (.cons (.neg (.int 1)) (.cons (.int 1) .nil))) (.cons (.tup (.cons (.int 1) (.cons (.int 1) .nil))) .nil)))) e = .ok (.tup (F.map fr ++ [fr (-1), fr 1])) e := by
    have u1 : ev C (.tup (.cons (.tup (.cons (.neg (.int 1)) (.cons (.int 1) .nil))) (.cons (.tup (.cons (.int 1) (.cons (.int 1) .nil))) .nil))) e = .ok (.tup [fr (-1), fr 1]) e := rfl
    rw [x_ev_bin, k1, R.bind_ok, u1, R.bind_ok]
    show R.of (bin .add (.tup (F.map fr)) (.tup [fr (-1), fr 1])) e = _
    rw [add_tup (by simp only [List.length_cons, List.length_nil]; omega)]; rfl
  have k8 : ev C (.bin .add (.slv 27 (.som (.int 1)) .non) (.tup (.cons (.tup (.cons (.int 2) (.cons (.int 4) .nil))) .nil))) e = .ok (.tup (cc ++ [.tup [.int 2, .int 4]])) e := by
    have u1 : ev C (.slv 27 (.som (.int 1)) .non) e = .ok (.tup cc) e := by
      rw [x_ev_slv, has, c.h27, x_evo_som, x_ev_int, R.bind_ok, R.bind_ok, x_evo_non, R.bind_ok, c.h27]
      simp only [sc]; rfl
    have u2 : ev C (.tup (.cons (.tup (.cons (.int 2) (.cons (.int 4) .nil))) .nil)) e = .ok (.tup [.tup [.int 2, .int 4]]) e := rfl
    rw [x_ev_bin, u1, R.bind_ok, u2, R.bind_ok, add_tup (by simp only [List.length_cons, List.length_nil]; omega)]; rfl
  have k6 : ev C .non e = .ok .non e := rfl
  have k7 : ev C (.tup .nil) e = .ok (.tup []) e := rfl
  have k9 : ev C (.tup (.cons (.int 1) .nil)) e = .ok (.tup [.int 1]) e := rfl
  have k := ev_lstX (evsC k1 (evsC k2 (evsC k3 (evsC k4 (evsC k5 (evsC k6 (evsC k7 (evsC k8 (evsC k9 (x_evs_nil (C := C) (e := e)))))))))))
  obtain ⟨V, hV⟩ : ∃ V, V = [frs F, frs (sclR F s), frs (A.getD 0 []), .lst false (F.map fr), .tup (F.map fr ++ [fr (-1), fr 1]), .non, .tup [], .tup (cc ++ [.tup [.int 2, .int 4]]), .tup [.int 1]] := ⟨_, rfl⟩
  have hRS : ∀ v ∈ V, RS v := by
    intro v hv
    rw [hV] at hv
    simp only [List.mem_cons, List.not_mem_nil, or_false] at hv
    rcases hv with rfl | rfl | rfl | rfl | rfl | rfl | rfl | rfl | rfl
    · exact RS.tup hQF (by omega)
    · exact RS_frs (fun q hq => (kL.wt q hq).mono (by decide)) (by rw [kL.len]; omega)
    · exact RS_frs (fun q hq => (b.wA.row b.sA x0 q hq).mono (by decide)) (by rw [b.sA.row x0]; omega)
    · exact RS_lst hQF (by omega)
    · refine RS.tup (fun u hu => ?_) (by simp only [List.length_append, List.length_cons, List.length_nil]; omega)
      rcases List.mem_append.mp hu with hu | hu
      · exact hQF u hu
      · simp only [List.mem_cons, List.not_mem_nil, or_false] at hu
        rcases hu with rfl | rfl
        · exact QS_fr ⟨by decide, by decide⟩
        · exact QS_fr ⟨by decide, by decide⟩
    · exact ⟨Vl_non, fun l e => by cases e⟩
    · exact RS.tup (fun u hu => by cases hu) (by simp)
    · refine RS.tup (fun u hu => ?_) (by simp only [List.length_append, List.length_cons, List.length_nil]; omega)
      rcases List.mem_append.mp hu with hu | hu
      · exact mc u hu
      · rw [List.mem_singleton.mp hu]
        have := QE_pair (n := 2) (d := 4) (by decide) (by decide)
        refine ⟨this.1, fun q e => ?_⟩
        unfold fr at e
        injection e with e
        injection e with e1 e2
        injection e1 with e1
        injection e2 with e2 _
        injection e2 with e2
        exact ⟨by rw [← e1]; decide, by have : q.den = 4 := by omega
                                        rw [this]; decide⟩
    · refine RS.tup (fun u hu => ?_) (by simp)
      rw [List.mem_singleton.mp hu]
      exact ⟨Vl_small (by decide), fun q e => by cases e⟩
  have hVF : isFs V = true := isFs_mem.mpr fun v hv => (hRS v hv).1.F
  have hz : frzs [frs F, frs (sclR F s), frs (A.getD 0 []), .lst true (F.map fr), .tup (F.map fr ++ [fr (-1), fr 1]), .non, .tup [], .tup (cc ++ [.tup [.int 2, .int 4]]), .tup [.int 1]] = V := by
    have f5 : frz (.tup (F.map fr ++ [fr (-1), fr 1])) = .tup (F.map fr ++ [fr (-1), fr 1]) := frz_of _ (hRS _ (by rw [hV]; simp)).1.F
    have f8 : frz (.tup (cc ++ [.tup [.int 2, .int 4]])) = .tup (cc ++ [.tup [.int 2, .int 4]]) := frz_of _ (hRS _ (by rw [hV]; simp)).1.F
    rw [frzs, frz_frs, frzs, frz_frs, frzs, frz_frs, frzs, frz_lstO (isFs_frs F), frzs, f5, frzs, frzs, frzs, f8, hV]; rfl
  rw [hz] at k
  obtain ⟨e1, s1, x1⟩ := asgX (k := 20) hio k (by rw [b.len]; decide)
  have b1 := b.ext x1 (by decide)
  have c1 := c.ext x1 (by decide)
  obtain ⟨e2, he2⟩ : ∃ e2, e2 = e1.set 20 (some (.lst false V)) := ⟨_, rfl⟩
  have x2 : Ext e1 e2 20 (.lst false V) := by rw [he2]; exact Ext.of _ (by rw [b1.len]; decide)
  have b2 := b1.ext x2 (by decide)
  have c2 := c1.ext x2 (by decide)
  have hsrs : srs C (.seq (.var 20)) e1 = .ok V e2 := by rw [he2]; exact srs_O x1.on hVF
  obtain ⟨e3, s3, b3, c3⟩ := ex_for_all (C := C) (t := .nm 19) (b := (.cons (.asg (.nm 9) (.and (.isiv 19 .tuple) (.cmp .eq (.lc [35] (.nm 35) (.seq (.var 19)) (.som (.not (.call 52 (.cons (.var 35) .nil)))) (.var 35)) (.lst .nil))))
    (.cons (.asg (.nm 31) (.and (.var 9) (.cmp .eq (.lc [35] (.nm 35) (.seq (.var 19)) (.som (.cmp .lt (.ix 35 (.int 0)) (.int 0))) (.var 35)) (.lst .nil))))
    (.cons (.ife (.not (.call 35 (.cons (.lst (.cons (.call 7 (.cons (.var 19) .nil)) (.cons (.call 10 (.cons (.var 19) .nil)) (.cons (.call 12 (.cons (.var 19) .nil)) .nil)))) (.cons (.lst (.cons (.var 9) (.cons (.var 31) (.cons (.and (.var 31) (.cmp .eq (.call 41 (.cons (.var 19) .nil)) (.tup (.cons (.int 1) (.cons (.int 1) .nil))))) .nil)))) .nil)))) (.cons (.ret (.bl false))
    .nil) .nil)
    .nil)))) (fun e => Ba e x y z A B D ∧ Bb e x y F G s S) hsrs ⟨b2, c2⟩ (by
    rintro v hv e ⟨b, c⟩
    have hg := hRS v hv
    have hF := hg.1.F
    have g := Ext.of (e := e) (i := 19) v (by rw [b.len]; decide)
    obtain ⟨e1, he1⟩ : ∃ e1, e1 = e.set 19 (some v) := ⟨_, rfl⟩
    rw [← he1] at g
    have b1 := b.ext g (by decide)
    have c1 := c.ext g (by decide)
    obtain ⟨e2, s2, x2⟩ := asgX (k := 9) hio (plain_ev K b1.len (b1.nn 35 (by decide)) g.on hg.1) (by rw [b1.len]; decide)
    have b2 := b1.ext x2 (by decide)
    have c2 := c1.ext x2 (by decide)
    obtain ⟨e3, s3, x3⟩ := asgX (k := 31) hio (weights_ev K b2.len (b2.nn 35 (by decide)) (x2.k g.on) hg.1 x2.on) (by rw [b2.len]; decide)
    have b3 := b2.ext x3 (by decide)
    have c3 := c2.ext x3 (by decide)
    have p19 : gt e3 19 = some v := x3.k (x2.k g.on)
    have d1 := K.rof v (hg.1.mono (by decide))
    have d2 := K.isw v (hg.1.mono (by decide))
    have d3 := K.ch v (hg.1.mono (by decide)) fun l e => by subst e; exact hg.sums
    have m1 : ev C (.call 7 (.cons (.var 19) .nil)) e3 = .ok (.bl (rowB v)) e3 := ev_c1 (ev_v p19 hF) (by rw [frz_of _ hF]; exact d1)
    have m2 : ev C (.call 10 (.cons (.var 19) .nil)) e3 = .ok (.bl (wtB v)) e3 := ev_c1 (ev_v p19 hF) (by rw [frz_of _ hF]; exact d2)
    have m3 : ev C (.call 12 (.cons (.var 19) .nil)) e3 = .ok (.bl (chB v)) e3 := ev_c1 (ev_v p19 hF) (by rw [frz_of _ hF]; exact d3)
    have n1 := ev_lstX (evsC m1 (evsC m2 (evsC m3 (x_evs_nil (C := C) (e := e3)))))
    have n2 := ev_lstX (evsC (ev_v (C := C) (x3.k x2.on) rfl) (evsC (ev_v (C := C) x3.on rfl) (evsC (chances_ev K p19 hg x3.on) (x_evs_nil (C := C) (e := e3)))))
    refine ⟨e3, ?_, b3, c3⟩
    rw [asg_nm hio (by rw [b.len]; decide), R.bind_ok, ← he1, exs_nx s2, exs_nx s3, exs_nx (same_if (v := .lst false [.bl (rowB v), .bl (wtB v), .bl (chB v)]) K.sm n1 n2 rfl rfl ((Vl_lst (k := 1) (fun t ht => by
      simp only [List.mem_cons, List.not_mem_nil, or_false] at ht
      rcases ht with rfl | rfl | rfl <;> exact Vl_bl) (by simp)).mono (by decide)))]; rfl)
  refine ⟨e3, fun r => ?_, b3, c3⟩
  have s1 : ex C q32 e = .ok .nx e1 := s1
  have s3 : ex C q33 e1 = .ok .nx e3 := s3
  rw [exs_nx s1, exs_nx s3]
end Iv
set_option Elab.async false
set_option linter.all false
set_option maxRecDepth 100000
set_option exponentiation.threshold 20000
namespace Iv
open PySem Q02
def TS (v : T) : Prop := ∃ m, v = tab m ∧ (∀ r ∈ m, r.length ≤ 8 ∧ ∀ q ∈ r, Wt 20 q) ∧ m.length ≤ 8
def OJ (v : T) : Prop := Vl 58 v ∧ (TS v ∨ isTup v = false ∨ v = .tup [.non])
theorem TS.vl {v : T} (h : TS v) : Vl 3 v := by
  obtain ⟨m, rfl, h1, h2⟩ := h
  exact Vl_tab (fun r hr => ⟨fun q hq => ((h1 r hr).2 q hq).mono (by decide), by have := (h1 r hr).1; omega⟩) (by omega)
theorem OJ.of {v : T} (h : TS v) : OJ v := ⟨h.vl.mono (by decide), .inl h⟩
theorem tabB_all (m : List (List Rat)) : tabB (tab m) = m.all fun r => decide (r.length = (m.getD 0 []).length) := by
  show ((m.map frs).all rowB && (m.map frs).all fun r => lenT r == lenT ((m.map frs).getD 0 .non)) = _
  have h1 : (m.map frs).all rowB = true := by
    rw [List.all_map, List.all_eq_true]; intro r _; exact rowB_frs r
  rw [h1, Bool.true_and, List.all_map]
  cases m with
  | nil => rfl
  | cons r0 m =>
    congr 1
    funext r
    show (lenT (frs r) == lenT (frs r0)) = decide (r.length = r0.length)
    rw [lenT_frs, lenT_frs, Bool.beq_eq_decide_eq]
theorem OJ.plain {C : Cn} (K : K02 C) {e : Env} {v : T} (hl : e.length = 38) (h36 : gt e 36 = none) (h : gt e 19 = some v) (hv : OJ v) :
    ev C (.and (.isiv 19 .tuple) (.and (.cmp .eq (.lc [36] (.nm 36) (.seq (.var 19)) (.som (.not (.isiv 36 .tuple))) (.var 36)) (.lst .nil)) (.cmp .eq (.lc [36] (.nm 36) (.seq (.var 19)) (.som (.cmp .ne (.primv .len 36) (.prim .len (.ix 19 (.int 0))))) (.var 36)) (.lst .nil)))) e = .ok (.bl (tabB v)) e := by
  have h0 := ev_istup (C := C) h hv.1.1
  by_cases ht : isTup v = true
  · obtain ⟨us, rfl⟩ := isTup_iff.mp ht
    obtain ⟨h1, h2, h3⟩ := Vl.tup (k := 57) hv.1
    have hlc := cAc id (C := C) (s := .seq (.var 19)) (c := .not (.isiv 36 .tuple)) (x := .var 36) (i := 36) (e := e) (l := us) K.io (fun u => !isTup u) id (srs_T h h3) (by rw [hl]; decide) (own_none h36) (Vl_len hv.1) (fun u hu e' g => ev_not2 (ev_istup g.on (h1 u hu).1)) (fun u hu _ e' g => ev_v g.on (h1 u hu).F)
    rw [List.map_id] at hlc
    have h4 := ev_eq_nil hlc fun u hu => (h1 u (List.mem_filter.mp hu).1).1.mono (by decide)
    rw [filter_all] at h4
    rcases hv.2 with hm | hm | hm
    · obtain ⟨m, hm, h5, h6⟩ := hm
      have hus : us = m.map frs := by injection hm
      subst hus
      have h7 : (m.map frs).all isTup = true := by
        rw [List.all_map, List.all_eq_true]; intro r _; rfl
      rw [h7] at h4
      have e0 : T.tup (m.map frs) = tab m := rfl
      rw [e0] at *
      have hl2 := cAc frs (C := C) (s := .seq (.var 19)) (c := .cmp .ne (.primv .len 36) (.prim .len (.ix 19 (.int 0)))) (x := .var 36) (i := 36) (e := e) (l := m) K.io (fun r => !decide (r.length = (m.getD 0 []).length)) frs (srs_tab h) (by rw [hl]; decide) (own_none h36) (by omega) (fun r hr e' g => by
        have hpos : 0 < m.length := List.length_pos_of_mem hr
        have i1 := ev_ixT (C := C) (k := 0) (x := .int 0) (g.k h) rfl hpos
        have i2 : ev C (.primv .len 36) e' = .ok (.int r.length) e' := by
          rw [x_ev_primv, g.on]
          simp only [prim_len_frs]; rfl
        rw [x_ev_cmp, i2, R.bind_ok, x_ev_prim, i1, R.bind_ok, prim_len_frs, R.of_some, R.bind_ok, cmp_ne_nat]; rfl) (fun r hr _ e' g => ev_v g.on (isF_frs r))
      have h8 := ev_eq_nil hl2 fun u hu => by
        obtain ⟨r, hr, rfl⟩ := List.mem_map.mp hu
        exact (h1 (frs r) (List.mem_map_of_mem (List.mem_filter.mp hr).1)).1.mono (by decide)
      rw [List.isEmpty_map, filter_all, ← tabB_all] at h8
      have := ev_and2 h0 fun _ => ev_and2 h4 fun _ => h8
      rw [ht] at this
      exact this
    · rw [ht] at hm; cases hm
    · injection hm with hm
      subst hm
      have := ev_and2 h0 fun _ => ev_and2 (b := true) (y := .cmp .eq (.lc [36] (.nm 36) (.seq (.var 19)) (.som (.cmp .ne (.primv .len 36) (.prim .len (.ix 19 (.int 0))))) (.var 36)) (.lst .nil)) h4 fun h => by cases h
      exact this
  · have ht := Bool.eq_false_iff.mpr ht
    have hr : tabB v = false := by cases v <;> first | rfl | cases ht
    rw [hr]
    rw [ht] at h0
    exact ev_and2 (b := true) h0 fun h => by cases h
theorem OJ.kern {C : Cn} (K : K02 C) {e : Env} {v : T} (hl : e.length = 38) (h36 : gt e 36 = none) (h35 : gt e 35 = none) (h : gt e 19 = some v) (hv : OJ v) (h9 : gt e 9 = some (.bl (tabB v))) :
    ev C (.and (.var 9) (.cmp .eq (.lc [36] (.nm 36) (.seq (.var 19)) (.som (.or (.cmp .ne (.lc [35] (.nm 35) (.seq (.var 36)) (.som (.cmp .lt (.ix 35 (.int 0)) (.int 0))) (.var 35)) (.lst .nil)) (.cmp .ne (.call 41 (.cons (.var 36) .nil)) (.tup (.cons (.int 1) (.cons (.int 1) .nil)))))) (.var 36)) (.lst .nil))) e = .ok (.bl (knB v)) e := by
  have h0 : ev C (.var 9) e = .ok (.bl (tabB v)) e := ev_v h9 rfl
  by_cases ht : tabB v = true
  · have hm : TS v := by
      rcases hv.2 with hm | hm | hm
      · exact hm
      · cases v <;> first | (cases hm; done) | (cases ht; done)
      · subst hm; cases ht
    have hvl := hv.1
    obtain ⟨m, rfl, h5, h6⟩ := hm
    obtain ⟨h1, h2, h3⟩ := Vl.tup (k := 57) hvl
    have hl2 := cAc frs (C := C) (s := .seq (.var 19)) (c := .or (.cmp .ne (.lc [35] (.nm 35) (.seq (.var 36)) (.som (.cmp .lt (.ix 35 (.int 0)) (.int 0))) (.var 35)) (.lst .nil)) (.cmp .ne (.call 41 (.cons (.var 36) .nil)) (.tup (.cons (.int 1) (.cons (.int 1) .nil))))) (x := .var 36) (i := 36) (e := e) (l := m) K.io (fun r => !chB (frs r)) frs (srs_tab h) (by rw [hl]; decide) (own_none h36) (by omega) (fun r hr e' g => by
      obtain ⟨w1, w2⟩ := h5 r hr
      obtain ⟨s1, s2⟩ := SumOk.of w2 (by omega)
      have hlc := cAc fr (C := C) (s := .seq (.var 36)) (c := .cmp .lt (.ix 35 (.int 0)) (.int 0)) (x := .var 35) (i := 35) (e := e') (l := r) K.io (fun q => !decide (0 ≤ q)) fr (srs_frs g.on) (by rw [g.len, hl]; decide) (own_none (g.k h35)) (by omega) (fun q hq e'' g2 => by
        have e1 : (!decide (0 ≤ q)) = decide (q.num < 0) := by
          rw [← decide_not, decide_eq_decide, ← num_nn]; omega
        rw [e1, x_ev_cmp, x_ev_ix, has, g2.on, x_ev_int, R.bind_ok, g2.on]
        simp only [num_at]
        rfl) (fun q hq _ e'' g2 => ev_v g2.on (isF_fr q))
      have h4 := ev_ne_nil hlc fun u hu => by
        obtain ⟨q, hq, rfl⟩ := List.mem_map.mp hu
        exact (Vl_fr (s2 q (List.mem_filter.mp hq).1)).1.mono (by decide)
      rw [List.isEmpty_map, filter_all] at h4
      have hc := K.to r (frs r) (.inr rfl) s1 s2
      have h7 : ev C (.cmp .ne (.call 41 (.cons (.var 36) .nil)) (.tup (.cons (.int 1) (.cons (.int 1) .nil)))) e' = .ok (.bl (!decide (tot r = 1))) e' := by
        rw [x_ev_cmp, ev_c1 (ev_v g.on (isF_frs r)) (by rw [frz_frs]; exact hc), R.bind_ok]
        show boolR (cmp .ne (fr (tot r)) (.tup [.int 1, .int 1])) e' = _
        rw [cmpNe rfl rfl, eqT_one]; rfl
      have h8 := ev_or2 h4 fun _ => h7
      have e2 : wtB (frs r) = r.all fun q => decide (0 ≤ q) := by
        show (rowB (frs r) && (r.map fr).all nonneg) = _
        rw [List.all_map, rowB_frs, Bool.true_and]
        congr 1
        funext q
        exact nonneg_fr q
      rw [chB_frs, e2, Bool.not_and]
      exact h8) (fun r hr _ e' g => ev_v g.on (isF_frs r))
    have h8 := ev_eq_nil hl2 fun u hu => by
      obtain ⟨r, hr, rfl⟩ := List.mem_map.mp hu
      exact (h1 (frs r) (List.mem_map_of_mem (List.mem_filter.mp hr).1)).1.mono (by decide)
    rw [List.isEmpty_map, filter_all] at h8
    have h9 := ev_and2 h0 fun _ => h8
    have e3 : knB (tab m) = (tabB (tab m) && m.all fun r => chB (frs r)) := by
      show (tabB (tab m) && (m.map frs).all chB) = _
      rw [List.all_map]; rfl
    rw [e3]; exact h9
  · have ht := Bool.eq_false_iff.mpr ht
    have hr : knB v = false := by unfold knB; rw [ht]; rfl
    rw [hr]
    rw [ht] at h0
    exact ev_and2 (b := true) h0 fun h => by cases h
theorem OJ.sums {v : T} (h : OJ v) : SumsOk v := by
  intro ts e l hl
  rcases h.2 with hm | hm | hm
  · obtain ⟨m, rfl, h5, h6⟩ := hm
    have e : m.map frs = ts := by injection e
    rw [← e] at hl
    obtain ⟨r, hr, he⟩ := List.mem_map.mp hl
    cases frs_inj he
    obtain ⟨w1, w2⟩ := h5 _ hr
    exact SumOk.of w2 (by omega)
  · subst e; cases hm
  · subst hm
    injection e with e
    rw [← e] at hl
    cases List.mem_singleton.mp hl
theorem segJ {C : Cn} (K : K02 C) {e : Env} {x y z : Nat} {A B D S : List (List Rat)} {F G : List Rat} {s : Rat} (b : Ba e x y z A B D) (c : Bb e x y F G s S) :
    ∃ e', (∀ r, exs C (.cons q34 (.cons q35 r)) e = exs C r e') := by
  have hsz : SZ = 16777216 := rfl
  have hio := K.io
  have ⟨x0, x4, y0, y4, z0, z4⟩ := (⟨b.x0, b.x4, b.y0, b.y4, b.z0, b.z4⟩ : 0 < x ∧ x ≤ 4 ∧ 0 < y ∧ y ≤ 4 ∧ 0 < z ∧ z ≤ 4)
  have lA : A.length ≤ 4 := by rw [b.sA.1]; exact x4
  have lS : S.length ≤ 4 := by rw [c.kS.shp.1]; exact y4
  have lF : F.length ≤ 4 := by rw [c.lF]; exact x4
  have rA : ∀ r ∈ A, r.length ≤ 8 ∧ ∀ q ∈ r, Wt 20 q := fun r hr => ⟨by rw [b.sA.2 r hr]; omega, fun q hq => (b.wA r hr q hq).mono (by decide)⟩
  have rS : ∀ r ∈ S, r.length ≤ 8 ∧ ∀ q ∈ r, Wt 20 q := fun r hr => ⟨by rw [c.kS.shp.2 r hr]; omega, fun q hq => (c.wS r hr q hq).mono (by decide)⟩
  -- the values
  have k1 := ev_v (C := C) b.h24 (isF_tab A)
  have k2 := ev_v (C := C) c.h8 (isF_tab S)
  have k3 : ev C (.tup .nil) e = .ok (.tup []) e := rfl
  have k4 : ev C (.primv .list 24) e = .ok (.lst true (A.map frs)) e := by
    have p : Iv.prim .list (tab A) = some (.lst true (A.map frs)) := by
      show (if _ then _ else _) = _
      rw [if_pos (isFs_tab A)]
    rw [x_ev_primv, b.h24]
    simp only [p]; rfl
  have k5 : ev C (.bin .add (.var 24) (.tup (.cons (.tup .nil) .nil))) e = .ok (tab (A ++ [[]])) e := by
    have u1 : ev C (.tup (.cons (.tup .nil) .nil)) e = .ok (.tup [frs []]) e := rfl
    rw [x_ev_bin, k1, R.bind_ok, u1, R.bind_ok]
    show R.of (bin .add (.tup (A.map frs)) (.tup [frs []])) e = _
    rw [add_tup (by rw [List.length_map, List.length_singleton]; omega)]
    unfold tab
    rw [List.map_append]; rfl
  have k6 : ev C .non e = .ok .non e := rfl
  have kF := ev_v (C := C) c.h27 (isF_frs F)
  have k7 : ev C (.bin .add (.var 8) (.tup (.cons (.bin .add (.var 27) (.var 27)) .nil))) e = .ok (tab (S ++ [F ++ F])) e := by
    have u1 : ev C (.bin .add (.var 27) (.var 27)) e = .ok (frs (F ++ F)) e := by
      rw [x_ev_bin, kF, R.bind_ok, kF, R.bind_ok]
      show R.of (bin .add (.tup (F.map fr)) (.tup (F.map fr))) e = _
      rw [add_tup (by rw [List.length_map]; omega)]
      unfold frs
      rw [List.map_append]; rfl
    have u2 : ev C (.tup (.cons (.bin .add (.var 27) (.var 27)) .nil)) e = .ok (.tup [frs (F ++ F)]) e := by
      rw [x_ev_tup, x_evs_cons, u1]; rfl
    rw [x_ev_bin, k2, R.bind_ok, u2, R.bind_ok]
    show R.of (bin .add (.tup (S.map frs)) (.tup [frs (F ++ F)])) e = _
    rw [add_tup (by rw [List.length_map, List.length_singleton]; omega)]
    unfold tab
    rw [List.map_append]; rfl
  have k8 : ev C (.tup (.cons .non .nil)) e = .ok (.tup [.non]) e := rfl
  have k := ev_lstX (evsC k1 (evsC k2 (evsC k3 (evsC k4 (evsC k5 (evsC k6 (evsC k7 (evsC k8 (x_evs_nil (C := C) (e := e))))))))))
  obtain ⟨V, hV⟩ : ∃ V, V = [tab A, tab S, .tup [], .lst false (A.map frs), tab (A ++ [[]]), .non, tab (S ++ [F ++ F]), .tup [.non]] := ⟨_, rfl⟩
  have tA : TS (tab A) := ⟨A, rfl, rA, by omega⟩
  have hOJ : ∀ v ∈ V, OJ v := by
    intro v hv
    rw [hV] at hv
    simp only [List.mem_cons, List.not_mem_nil, or_false] at hv
    rcases hv with rfl | rfl | rfl | rfl | rfl | rfl | rfl | rfl
    · exact OJ.of tA
    · exact OJ.of ⟨S, rfl, rS, by omega⟩
    · exact OJ.of ⟨[], rfl, ⟨fun r hr => absurd hr (by simp), by simp⟩⟩
    · refine ⟨(Vl_lst (k := 2) (fun t ht => ?_) (by rw [List.length_map]; omega)).mono (by decide), .inr (.inl rfl)⟩
      obtain ⟨r, hr, rfl⟩ := List.mem_map.mp ht
      exact Vl_frs (fun q hq => ((rA r hr).2 q hq).mono (by decide)) (by have := (rA r hr).1; omega)
    · refine OJ.of ⟨A ++ [[]], rfl, fun r hr => ?_, by rw [List.length_append, List.length_singleton]; omega⟩
      rcases List.mem_append.mp hr with hr | hr
      · exact rA r hr
      · rw [List.mem_singleton.mp hr]
        exact ⟨by simp, fun q hq => by cases hq⟩
    · exact ⟨Vl_non, .inr (.inl rfl)⟩
    · refine OJ.of ⟨S ++ [F ++ F], rfl, fun r hr => ?_, by rw [List.length_append, List.length_singleton]; omega⟩
      rcases List.mem_append.mp hr with hr | hr
      · exact rS r hr
      · rw [List.mem_singleton.mp hr]
        refine ⟨by rw [List.length_append]; omega, fun q hq => ?_⟩
        rcases List.mem_append.mp hq with hq | hq <;> exact (c.pF q hq).2.mono (by decide)
    · exact ⟨(Vl_tup (k := 0) (fun t ht => by rw [List.mem_singleton.mp ht]; exact Vl_non) (by simp)).mono (by decide), .inr (.inr rfl)⟩
  have hVF : isFs V = true := isFs_mem.mpr fun v hv => (hOJ v hv).1.F
  have hz : frzs [tab A, tab S, .tup [], .lst true (A.map frs), tab (A ++ [[]]), .non, tab (S ++ [F ++ F]), .tup [.non]] = V := by
    rw [frzs, frz_tab, frzs, frz_tab, frzs, frzs, frz_lstO (isFs_tab A), frzs, frz_tab, frzs, frzs, frz_tab, hV]; rfl
  rw [hz] at k
  obtain ⟨e1, s1, x1⟩ := asgX (k := 20) hio k (by rw [b.len]; decide)
  have b1 := b.ext x1 (by decide)
  have c1 := c.ext x1 (by decide)
  obtain ⟨e2, he2⟩ : ∃ e2, e2 = e1.set 20 (some (.lst false V)) := ⟨_, rfl⟩
  have x2 : Ext e1 e2 20 (.lst false V) := by rw [he2]; exact Ext.of _ (by rw [b1.len]; decide)
  have b2 := b1.ext x2 (by decide)
  have hsrs : srs C (.seq (.var 20)) e1 = .ok V e2 := by rw [he2]; exact srs_O x1.on hVF
  obtain ⟨e3, s3, b3⟩ := ex_for_all (C := C) (t := .nm 19) (b := (.cons (.asg (.nm 9) (.and (.isiv 19 .tuple) (.and (.cmp .eq (.lc [36] (.nm 36) (.seq (.var 19)) (.som (.not (.isiv 36 .tuple))) (.var 36)) (.lst .nil)) (.cmp .eq (.lc [36] (.nm 36) (.seq (.var 19)) (.som (.cmp .ne (.primv .len 36) (.prim .len (.ix 19 (.int 0))))) (.var 36)) (.lst .nil)))))
    (.cons (.asg (.nm 18) (.and (.var 9) (.cmp .eq (.lc [36] (.nm 36) (.seq (.var 19)) (.som (.or (.cmp .ne (.lc [35] (.nm 35) (.seq (.var 36)) (.som (.cmp .lt (.ix 35 (.int 0)) (.int 0))) (.var 35)) (.lst .nil)) (.cmp .ne (.call 41 (.cons (.var 36) .nil)) (.tup (.cons (.int 1) (.cons (.int 1) .nil)))))) (.var 36)) (.lst .nil))))
    (.cons (.ife (.not (.call 35 (.cons (.lst (.cons (.call 8 (.cons (.var 19) .nil)) (.cons (.call 13 (.cons (.var 19) .nil)) .nil))) (.cons (.lst (.cons (.var 9) (.cons (.var 18) .nil))) .nil)))) (.cons (.ret (.bl false))
    .nil) .nil)
    .nil)))) (fun e => Ba e x y z A B D) hsrs b2 (by
    rintro v hv e b
    have hg := hOJ v hv
    have hF := hg.1.F
    have g := Ext.of (e := e) (i := 19) v (by rw [b.len]; decide)
    obtain ⟨e1, he1⟩ : ∃ e1, e1 = e.set 19 (some v) := ⟨_, rfl⟩
    rw [← he1] at g
    have b1 := b.ext g (by decide)
    obtain ⟨e2, s2, x2⟩ := asgX (k := 9) hio (OJ.plain K b1.len (b1.nn 36 (by decide)) g.on hg) (by rw [b1.len]; decide)
    have b2 := b1.ext x2 (by decide)
    obtain ⟨e3, s3, x3⟩ := asgX (k := 18) hio (OJ.kern K b2.len (b2.nn 36 (by decide)) (b2.nn 35 (by decide)) (x2.k g.on) hg x2.on) (by rw [b2.len]; decide)
    have b3 := b2.ext x3 (by decide)
    have p19 : gt e3 19 = some v := x3.k (x2.k g.on)
    have d1 := K.ist v (hg.1.mono (by decide))
    have d2 := K.kn v (hg.1.mono (by decide)) hg.sums
    have m1 : ev C (.call 8 (.cons (.var 19) .nil)) e3 = .ok (.bl (tabB v)) e3 := ev_c1 (ev_v p19 hF) (by rw [frz_of _ hF]; exact d1)
    have m2 : ev C (.call 13 (.cons (.var 19) .nil)) e3 = .ok (.bl (knB v)) e3 := ev_c1 (ev_v p19 hF) (by rw [frz_of _ hF]; exact d2)
    have n1 := ev_lstX (evsC m1 (evsC m2 (x_evs_nil (C := C) (e := e3))))
    have n2 := ev_lstX (evsC (ev_v (C := C) (x3.k x2.on) rfl) (evsC (ev_v (C := C) x3.on rfl) (x_evs_nil (C := C) (e := e3))))
    refine ⟨e3, ?_, b3⟩
    rw [asg_nm hio (by rw [b.len]; decide), R.bind_ok, ← he1, exs_nx s2, exs_nx s3, exs_nx (same_if (v := .lst false [.bl (tabB v), .bl (knB v)]) K.sm n1 n2 rfl rfl ((Vl_lst (k := 1) (fun t ht => by
      simp only [List.mem_cons, List.not_mem_nil, or_false] at ht
      rcases ht with rfl | rfl <;> exact Vl_bl) (by simp)).mono (by decide)))]; rfl)
  refine ⟨e3, fun r => ?_⟩
  have s1 : ex C q34 e = .ok .nx e1 := s1
  have s3 : ex C q35 e1 = .ok .nx e3 := s3
  rw [exs_nx s1, exs_nx s3]
theorem law02 {C : Cn} (K : K02 C) (ns : List Int) : run C 38 lawT [.scr ns] = ok0 (.bl true) := by
  obtain ⟨e1, tp1, x, y, z, A, B, D, s1, b1, p1, t1⟩ := segA K ns
  obtain ⟨e2, s2, b2, p2⟩ := segB K b1 p1
  obtain ⟨e3, tp3, s3, b3, p3, t3⟩ := segC K b2 p2 t1
  obtain ⟨e4, tp4, S, s4, b4, p4, t4, h8, kS, wS⟩ := segD K b3 p3 t3
  obtain ⟨e5, tp5, F, G, s, s5, b5, p5, t5, c5⟩ := segE K b4 p4 t4 h8 kS wS
  obtain ⟨e6, s6, b6, p6, c6⟩ := segF K b5 p5 c5
  obtain ⟨e7, s7, b7, c7⟩ := segG K b6 p6 t5 c6
  obtain ⟨e8, s8, b8, c8⟩ := segI K b7 c7
  obtain ⟨e9, s9⟩ := segJ K b8 c8
  refine run_rt K.io (e := e9) ?_
  unfold lawT
  rw [s1, s2, s3, s4, s5, s6, s7, s8, s9]
  exact exs_rt rfl
end Iv
set_option Elab.async false
set_option linter.all false
set_option maxRecDepth 100000
set_option maxHeartbeats 0
namespace Hd
open PySem PySem.Spec PyProof.Rows L2
def top (i : Nat) : Stmt := PySem.Challenge.pw_chancesmoved_k02_whole_tables_and_coupli.main.body.getD i (.Pass ⟨0, 0, 0, 0⟩)
def mkD (a : Str × Option Str) (n q : Str) (st : Stmt) : He.DefD := ⟨a, n, q, defArgs st, defBody st, defScope st, [], []⟩

def fn : List He.DefD := [
  mkD ("made", none) "made" "made" (top 5),
  mkD ("plus_f", none) "plus_f" "plus_f" (top 6),
  mkD ("minus_f", none) "minus_f" "minus_f" (top 7),
  mkD ("times_f", none) "times_f" "times_f" (top 8),
  mkD ("over_f", none) "over_f" "over_f" (top 9),
  mkD ("sum_f", none) "sum_f" "sum_f" (top 10),
  mkD ("is_fraction", none) "is_fraction" "is_fraction" (top 11),
  mkD ("is_row_of_f", none) "is_row_of_f" "is_row_of_f" (top 13),
  mkD ("is_table", none) "is_table" "is_table" (top 14),
  mkD ("check_table", none) "check_table" "check_table" (top 15),
  mkD ("is_weights", none) "is_weights" "is_weights" (top 16),
  mkD ("check_weights", none) "check_weights" "check_weights" (top 17),
  mkD ("is_chances", none) "is_chances" "is_chances" (top 18),
  mkD ("is_kernel", none) "is_kernel" "is_kernel" (top 19),
  mkD ("check_kernel", none) "check_kernel" "check_kernel" (top 20),
  mkD ("row_sums", none) "row_sums" "row_sums" (top 21),
  mkD ("column_sums", none) "column_sums" "column_sums" (top 22),
  mkD ("is_coupling", none) "is_coupling" "is_coupling" (top 23),
  mkD ("check_like_sums", none) "check_like_sums" "check_like_sums" (top 24),
  mkD ("turned_table", none) "turned_table" "turned_table" (top 25),
  mkD ("times_table", none) "times_table" "times_table" (top 26),
  mkD ("times_row", none) "times_row" "times_row" (top 27),
  mkD ("dot_f", none) "dot_f" "dot_f" (top 28),
  mkD ("dot_table", none) "dot_table" "dot_table" (top 29),
  mkD ("plain_kernel", none) "plain_kernel" "plain_kernel" (top 30),
  mkD ("even_kernel", none) "even_kernel" "even_kernel" (top 31),
  mkD ("kernel_power", none) "kernel_power" "kernel_power" (top 32),
  mkD ("apart_coupling", none) "apart_coupling" "apart_coupling" (top 33),
  mkD ("corner_coupling", none) "corner_coupling" "corner_coupling" (top 34),
  mkD ("kernel_of", none) "kernel_of" "kernel_of" (top 35),
  mkD ("coupling_of", none) "coupling_of" "coupling_of" (top 36),
  mkD ("places_used", none) "places_used" "places_used" (top 37),
  mkD ("plus_table", none) "plus_table" "plus_table" (top 38),
  mkD ("scaled_table", none) "scaled_table" "scaled_table" (top 39),
  mkD ("_law_next", none) "_law_next" "_law_next" (top 41),
  mkD ("_law_same", none) "_law_same" "_law_same" (top 42),
  mkD ("_law_least", none) "_law_least" "_law_least" (top 43),
  mkD ("_law_plus", none) "_law_plus" "_law_plus" (top 44),
  mkD ("_law_less", none) "_law_less" "_law_less" (top 45),
  mkD ("_law_minus", none) "_law_minus" "_law_minus" (top 46),
  mkD ("_law_times", none) "_law_times" "_law_times" (top 47),
  mkD ("_law_total", none) "_law_total" "_law_total" (top 48),
  mkD ("_law_row", none) "_law_row" "_law_row" (top 49),
  mkD ("_law_pairs", none) "_law_pairs" "_law_pairs" (top 50),
  mkD ("_law_over", none) "_law_over" "_law_over" (top 51),
  mkD ("_law_up", none) "_law_up" "_law_up" (top 52),
  mkD ("_law_mean", none) "_law_mean" "_law_mean" (top 53),
  mkD ("_law_marks", none) "_law_marks" "_law_marks" (top 54),
  mkD ("_law_table", none) "_law_table" "_law_table" (top 55),
  mkD ("_law_product", none) "_law_product" "_law_product" (top 56),
  mkD ("_law_corner", none) "_law_corner" "_law_corner" (top 57),
  mkD ("_law_is", none) "_law_is" "_law_is" (top 58),
  mkD ("_law_good", none) "_law_good" "_law_good" (top 59),
  mkD ("_law_bent", none) "_law_bent" "_law_bent" (top 60),
  mkD ("law", none) "law" "law" (top 61)]
def fa : List He.Fa := [.glo "ChancesmovedError", .glo "InvalidTable", .glo "InvalidRow", .glo "made", .glo "plus_f", .glo "minus_f", .glo "times_f", .glo "over_f", .glo "sum_f", .glo "is_fraction", .glo "is_row_of_f", .glo "is_table", .glo "check_table", .glo "is_weights", .glo "check_weights", .glo "is_chances", .glo "is_kernel", .glo "check_kernel", .glo "row_sums", .glo "column_sums", .glo "is_coupling", .glo "check_like_sums", .glo "turned_table", .glo "times_table", .glo "times_row", .glo "dot_f", .glo "dot_table", .glo "plain_kernel", .glo "even_kernel", .glo "kernel_power", .glo "apart_coupling", .glo "corner_coupling", .glo "kernel_of", .glo "coupling_of", .glo "places_used", .glo "plus_table", .glo "scaled_table", .glo "_law_next", .glo "_law_same", .glo "_law_least", .glo "_law_plus", .glo "_law_less", .glo "_law_minus", .glo "_law_times", .glo "_law_total", .glo "_law_row", .glo "_law_pairs", .glo "_law_over", .glo "_law_up", .glo "_law_mean", .glo "_law_marks", .glo "_law_table", .glo "_law_product", .glo "_law_corner", .glo "_law_is", .glo "_law_good", .glo "_law_bent", .glo "law", .free "abs", .free "all", .free "bool", .free "int", .free "isinstance", .free "len", .free "list", .free "range", .free "str", .free "sum", .free "tuple", .free "zip"]
def loose : List PySem.Str := ([("ChancesmovedError" : PySem.Str), ("InvalidTable" : PySem.Str), ("InvalidRow" : PySem.Str), ("made" : PySem.Str), ("plus_f" : PySem.Str), ("minus_f" : PySem.Str), ("times_f" : PySem.Str), ("over_f" : PySem.Str), ("sum_f" : PySem.Str), ("is_fraction" : PySem.Str), ("is_row_of_f" : PySem.Str), ("is_table" : PySem.Str), ("check_table" : PySem.Str), ("is_weights" : PySem.Str), ("check_weights" : PySem.Str), ("is_chances" : PySem.Str), ("is_kernel" : PySem.Str), ("check_kernel" : PySem.Str), ("row_sums" : PySem.Str), ("column_sums" : PySem.Str), ("is_coupling" : PySem.Str), ("check_like_sums" : PySem.Str), ("turned_table" : PySem.Str), ("times_table" : PySem.Str), ("times_row" : PySem.Str), ("dot_f" : PySem.Str), ("dot_table" : PySem.Str), ("plain_kernel" : PySem.Str), ("even_kernel" : PySem.Str), ("kernel_power" : PySem.Str), ("apart_coupling" : PySem.Str), ("corner_coupling" : PySem.Str), ("kernel_of" : PySem.Str), ("coupling_of" : PySem.Str), ("places_used" : PySem.Str)] : List PySem.Str) ++ ([("plus_table" : PySem.Str), ("scaled_table" : PySem.Str), ("_law_next" : PySem.Str), ("_law_same" : PySem.Str), ("_law_least" : PySem.Str), ("_law_plus" : PySem.Str), ("_law_less" : PySem.Str), ("_law_minus" : PySem.Str), ("_law_times" : PySem.Str), ("_law_total" : PySem.Str), ("_law_row" : PySem.Str), ("_law_pairs" : PySem.Str), ("_law_over" : PySem.Str), ("_law_up" : PySem.Str), ("_law_mean" : PySem.Str), ("_law_marks" : PySem.Str), ("_law_table" : PySem.Str), ("_law_product" : PySem.Str), ("_law_corner" : PySem.Str), ("_law_is" : PySem.Str), ("_law_good" : PySem.Str), ("_law_bent" : PySem.Str)] : List PySem.Str)
abbrev R : PySem.W.OpenRow := PySem.W.OpenLaw.row PySem.Challenge.rw_chancesmoved_k02_whole_tables_and_coupli
abbrev hk : PySem.W.Hook := He.hookD 4 fa fn
def ob (s : PySem.W.SharedT) : He.AlD := He.obsDG 4 fa fn (HandSHeadRun.getT s)
theorem ob_eq (s : PySem.W.SharedT) : ob s = hk.obs s.abs := He.obsDG_eq (HandSHeadRun.getT_eq s)
theorem run (w : World) : HandSHeadRun.RunEq R (PySem.W.view R.prog [61]) hk ob 4000 loose w := by
  intro os
  kernel_rfl
end Hd
namespace Pg
open Iv PySem PySem.Spec PyProof.Rows L2

/-- made: 0:over 1:under 2:sign 3:size 4:rest -/
def b0 : Ss :=
    (.cons (.par [3, 4] (.cons (.primv .abs 1) (.cons (.primv .abs 0) .nil)))
    (.cons (.whl (.cmpL .gt 4 (.int 0)) (.cons (.par [3, 4] (.cons (.var 4) (.cons (.bin .mod (.primv .int 3) (.var 4)) .nil)))
    .nil))
    (.cons (.asg (.nm 2) (.ife (.cmpL .gt 1 (.int 0)) (.int 1) (.neg (.int 1))))
    (.cons (.ret (.tup (.cons (.bin .fdiv (.bin .mul (.var 2) (.var 0)) (.var 3)) (.cons (.bin .fdiv (.bin .mul (.var 2) (.var 1)) (.var 3)) .nil))))
    .nil))))
/-- plus_f: 0:first 1:second -/
def b1 : Ss :=
    (.cons (.ret (.call 0 (.cons (.bin .add (.bin .mul (.ix 0 (.int 0)) (.ix 1 (.int 1))) (.bin .mul (.ix 1 (.int 0)) (.ix 0 (.int 1)))) (.cons (.bin .mul (.ix 0 (.int 1)) (.ix 1 (.int 1))) .nil))))
    .nil)
/-- minus_f: 0:first 1:second -/
def b2 : Ss :=
    (.cons (.ret (.call 0 (.cons (.bin .sub (.bin .mul (.ix 0 (.int 0)) (.ix 1 (.int 1))) (.bin .mul (.ix 1 (.int 0)) (.ix 0 (.int 1)))) (.cons (.bin .mul (.ix 0 (.int 1)) (.ix 1 (.int 1))) .nil))))
    .nil)
/-- times_f: 0:first 1:second -/
def b3 : Ss :=
    (.cons (.ret (.call 0 (.cons (.bin .mul (.ix 0 (.int 0)) (.ix 1 (.int 0))) (.cons (.bin .mul (.ix 0 (.int 1)) (.ix 1 (.int 1))) .nil))))
    .nil)
/-- over_f: 0:first 1:second -/
def b4 : Ss :=
    (.cons (.ret (.call 0 (.cons (.bin .mul (.ix 0 (.int 0)) (.ix 1 (.int 1))) (.cons (.bin .mul (.ix 0 (.int 1)) (.ix 1 (.int 0))) .nil))))
    .nil)
/-- sum_f: 0:some 1:found 2:one -/
def b5 : Ss :=
    (.cons (.asg (.nm 1) (.tup (.cons (.int 0) (.cons (.int 1) .nil))))
    (.cons (.for (.nm 2) (.seq (.var 0)) (.cons (.asg (.nm 1) (.call 1 (.cons (.var 1) (.cons (.var 2) .nil))))
    .nil))
    (.cons (.ret (.mov 1))
    .nil)))
/-- is_fraction: 0:value 1:one -/
def b6 : Ss :=
    (.cons (.ife (.or (.not (.isiv 0 .tuple)) (.cmp .ne (.primv .len 0) (.int 2))) (.cons (.ret (.bl false))
    .nil) .nil)
    (.cons (.ife (.not (.prim .all (.lc [1] (.nm 1) (.seq (.var 0)) .non (.and (.isiv 1 .int) (.not (.isiv 1 .bool)))))) (.cons (.ret (.bl false))
    .nil) .nil)
    (.cons (.ret (.and (.cmp .gt (.ix 0 (.int 1)) (.int 0)) (.cmpR .eq (.call 0 (.cons (.ix 0 (.int 0)) (.cons (.ix 0 (.int 1)) .nil))) 0)))
    .nil)))
/-- is_row_of_f: 0:value 1:one -/
def b7 : Ss :=
    (.cons (.ret (.and (.isiv 0 .tuple) (.prim .all (.lc [1] (.nm 1) (.seq (.var 0)) .non (.call 6 (.cons (.var 1) .nil))))))
    .nil)
/-- is_table: 0:value 1:row -/
def b8 : Ss :=
    (.cons (.ife (.or (.not (.isiv 0 .tuple)) (.not (.prim .all (.lc [1] (.nm 1) (.seq (.var 0)) .non (.call 7 (.cons (.var 1) .nil)))))) (.cons (.ret (.bl false))
    .nil) .nil)
    (.cons (.ret (.prim .all (.lc [1] (.nm 1) (.seq (.var 0)) .non (.cmp .eq (.primv .len 1) (.prim .len (.ix 0 (.int 0)))))))
    .nil))
/-- check_table: 0:value -/
def b9 : Ss :=
    (.cons (.ife (.not (.call 8 (.cons (.var 0) .nil))) (.cons .never
    .nil) .nil)
    .nil)
/-- is_weights: 0:value 1:one -/
def b10 : Ss :=
    (.cons (.ret (.and (.call 7 (.cons (.var 0) .nil)) (.prim .all (.lc [1] (.nm 1) (.seq (.var 0)) .non (.cmp .ge (.ix 1 (.int 0)) (.int 0))))))
    .nil)
/-- check_weights: 0:value -/
def b11 : Ss :=
    (.cons (.ife (.not (.call 10 (.cons (.var 0) .nil))) (.cons .never
    .nil) .nil)
    .nil)
/-- is_chances: 0:value -/
def b12 : Ss :=
    (.cons (.ret (.and (.call 10 (.cons (.var 0) .nil)) (.cmp .eq (.call 5 (.cons (.primv .list 0) .nil)) (.tup (.cons (.int 1) (.cons (.int 1) .nil))))))
    .nil)
/-- is_kernel: 0:value 1:row -/
def b13 : Ss :=
    (.cons (.ret (.and (.call 8 (.cons (.var 0) .nil)) (.prim .all (.lc [1] (.nm 1) (.seq (.var 0)) .non (.call 12 (.cons (.var 1) .nil))))))
    .nil)
/-- check_kernel: 0:value 1:k -/
def b14 : Ss :=
    (.cons (.exp (.call 9 (.cons (.var 0) .nil)))
    (.cons (.for (.nm 1) (.rg1 (.primv .len 0)) (.cons (.ife (.not (.call 12 (.cons (.ix 0 (.var 1)) .nil))) (.cons .never
    .nil) .nil)
    .nil))
    .nil))
/-- row_sums: 0:table 1:row -/
def b15 : Ss :=
    (.cons (.ret (.prim .tuple (.lc [1] (.nm 1) (.seq (.var 0)) .non (.call 5 (.cons (.primv .list 1) .nil)))))
    .nil)
/-- column_sums: 0:table 1:columns 2:k 3:row -/
def b16 : Ss :=
    (.cons (.ret (.prim .tuple (.lc [2] (.nm 2) (.rg1 (.var 1)) .non (.call 5 (.cons (.lc [3] (.nm 3) (.seq (.var 0)) .non (.ix 3 (.var 2))) .nil)))))
    .nil)
/-- is_coupling: 0:first 1:second 2:value 3:row 4:one -/
def b17 : Ss :=
    (.cons (.ife (.or (.not (.call 8 (.cons (.var 2) .nil))) (.or (.cmp .ne (.primv .len 2) (.primv .len 0)) (.not (.prim .all (.lc [3] (.nm 3) (.seq (.var 2)) .non (.cmp .eq (.primv .len 3) (.primv .len 1))))))) (.cons (.ret (.bl false))
    .nil) .nil)
    (.cons (.ife (.not (.prim .all (.lc2 [3, 4] (.nm 3) (.seq (.var 2)) .non [4] (.nm 4) (.seq (.var 3)) .non (.cmp .ge (.ix 4 (.int 0)) (.int 0))))) (.cons (.ret (.bl false))
    .nil) .nil)
    (.cons (.ret (.and (.cmpR .eq (.call 15 (.cons (.var 2) .nil)) 0) (.cmpR .eq (.call 16 (.cons (.var 2) (.cons (.primv .len 1) .nil))) 1)))
    .nil)))
/-- check_like_sums: 0:first 1:second -/
def b18 : Ss :=
    (.cons (.exp (.call 11 (.cons (.var 0) .nil)))
    (.cons (.exp (.call 11 (.cons (.var 1) .nil)))
    (.cons (.ife (.cmp .ne (.call 5 (.cons (.primv .list 0) .nil)) (.call 5 (.cons (.primv .list 1) .nil))) (.cons .never
    .nil) .nil)
    .nil)))
/-- turned_table: 0:table 1:columns 2:k 3:row -/
def b19 : Ss :=
    (.cons (.ret (.prim .tuple (.lc [2] (.nm 2) (.rg1 (.var 1)) .non (.prim .tuple (.lc [3] (.nm 3) (.seq (.var 0)) .non (.ix 3 (.var 2)))))))
    .nil)
/-- times_table: 0:first 1:second 2:columns 3:found 4:row 5:k 6:j -/
def b20 : Ss :=
    (.cons (.asg (.nm 2) (.ife (.cmpL .ne 1 (.tup .nil)) (.prim .len (.ix 1 (.int 0))) (.int 0)))
    (.cons (.asg (.nm 3) (.lst .nil))
    (.cons (.for (.nm 4) (.seq (.var 0)) (.cons (.app 3 (.prim .tuple (.lc [5] (.nm 5) (.rg1 (.var 2)) .non (.call 5 (.cons (.lc [6] (.nm 6) (.rg1 (.primv .len 4)) .non (.call 3 (.cons (.ix 4 (.var 6)) (.cons (.idx (.ix 1 (.var 6)) (.var 5)) .nil)))) .nil)))))
    .nil))
    (.cons (.ret (.primv .tuple 3))
    .nil))))
/-- times_row: 0:row 1:table -/
def b21 : Ss :=
    (.cons (.ret (.idx (.call 20 (.cons (.tup (.cons (.var 0) .nil)) (.cons (.var 1) .nil))) (.int 0)))
    .nil)
/-- dot_f: 0:first 1:second 2:k -/
def b22 : Ss :=
    (.cons (.ret (.call 5 (.cons (.lc [2] (.nm 2) (.rg1 (.primv .len 0)) .non (.call 3 (.cons (.ix 0 (.var 2)) (.cons (.ix 1 (.var 2)) .nil)))) .nil)))
    .nil)
/-- dot_table: 0:first 1:second 2:k -/
def b23 : Ss :=
    (.cons (.ret (.call 5 (.cons (.lc [2] (.nm 2) (.rg1 (.primv .len 0)) .non (.call 22 (.cons (.ix 0 (.var 2)) (.cons (.ix 1 (.var 2)) .nil)))) .nil)))
    .nil)
/-- plain_kernel: 0:many 1:j 2:k -/
def b24 : Ss :=
    (.cons (.ret (.prim .tuple (.lc [1] (.nm 1) (.rg1 (.var 0)) .non (.prim .tuple (.lc [2] (.nm 2) (.rg1 (.var 0)) .non (.ife (.cmpL .eq 1 (.var 2)) (.tup (.cons (.int 1) (.cons (.int 1) .nil))) (.tup (.cons (.int 0) (.cons (.int 1) .nil)))))))))
    .nil)
/-- even_kernel: 0:many 1:_ -/
def b25 : Ss :=
    (.cons (.ret (.prim .tuple (.lc [1] (.nm 1) (.rg1 (.var 0)) .non (.prim .tuple (.bin .mul (.lst (.cons (.call 0 (.cons (.int 1) (.cons (.var 0) .nil))) .nil)) (.var 0))))))
    .nil)
/-- kernel_power: 0:kernel 1:times 2:found 3:_ -/
def b26 : Ss :=
    (.cons (.asg (.nm 2) (.call 24 (.cons (.primv .len 0) .nil)))
    (.cons (.for (.nm 3) (.rg1 (.var 1)) (.cons (.asg (.nm 2) (.call 20 (.cons (.var 2) (.cons (.var 0) .nil))))
    .nil))
    (.cons (.ret (.mov 2))
    .nil)))
/-- apart_coupling: 0:first 1:second 2:a 3:b -/
def b27 : Ss :=
    (.cons (.ret (.prim .tuple (.lc [2] (.nm 2) (.seq (.var 0)) .non (.prim .tuple (.lc [3] (.nm 3) (.seq (.var 1)) .non (.call 3 (.cons (.var 2) (.cons (.var 3) .nil))))))))
    .nil)
/-- corner_coupling: 0:first 1:second 2:found 3:left 4:right 5:i 6:j 7:rest 8:part 9:_ 10:row -/
def b28 : Ss :=
    (.cons (.exp (.call 18 (.cons (.var 0) (.cons (.var 1) .nil))))
    (.cons (.par [3, 4] (.cons (.primv .list 0) (.cons (.primv .list 1) .nil)))
    (.cons (.asg (.nm 2) (.lc [9] (.nm 9) (.seq (.var 0)) .non (.bin .mul (.lst (.cons (.tup (.cons (.int 0) (.cons (.int 1) .nil))) .nil)) (.primv .len 1))))
    (.cons (.asg (.tp (.cons (.nm 5) (.cons (.nm 6) .nil))) (.tup (.cons (.int 0) (.cons (.int 0) .nil))))
    (.cons (.whl (.and (.cmpL .lt 5 (.primv .len 3)) (.cmpL .lt 6 (.primv .len 4))) (.cons (.asg (.nm 7) (.call 2 (.cons (.ix 3 (.var 5)) (.cons (.ix 4 (.var 6)) .nil))))
    (.cons (.asg (.nm 8) (.ife (.cmp .lt (.ix 7 (.int 0)) (.int 0)) (.ix 3 (.var 5)) (.ix 4 (.var 6))))
    (.cons (.asg (.ix2 2 (.var 5) (.var 6)) (.var 8))
    (.cons (.asg (.tp (.cons (.ix 3 (.var 5)) (.cons (.ix 4 (.var 6)) .nil))) (.tup (.cons (.call 2 (.cons (.ix 3 (.var 5)) (.cons (.var 8) .nil))) (.cons (.call 2 (.cons (.ix 4 (.var 6)) (.cons (.var 8) .nil))) .nil))))
    (.cons (.ife (.cmp .eq (.idx (.ix 3 (.var 5)) (.int 0)) (.int 0)) (.cons (.aug 5 .add (.int 1))
    .nil) (.cons (.aug 6 .add (.int 1))
    .nil))
    .nil))))))
    (.cons (.ret (.prim .tuple (.lc [10] (.nm 10) (.seq (.var 2)) .non (.primv .tuple 10))))
    .nil))))))
/-- kernel_of: 0:coupling 1:found 2:row 3:total 4:k 5:one -/
def b29 : Ss :=
    (.cons (.asg (.nm 1) (.lst .nil))
    (.cons (.for (.nm 2) (.seq (.var 0)) (.cons (.asg (.nm 3) (.call 5 (.cons (.primv .list 2) .nil)))
    (.cons (.ife (.cmp .eq (.ix 3 (.int 0)) (.int 0)) (.cons (.app 1 (.prim .tuple (.lc [4] (.nm 4) (.rg1 (.primv .len 2)) .non (.ife (.cmpL .eq 4 (.int 0)) (.tup (.cons (.int 1) (.cons (.int 1) .nil))) (.tup (.cons (.int 0) (.cons (.int 1) .nil)))))))
    .nil) (.cons (.app 1 (.prim .tuple (.lc [5] (.nm 5) (.seq (.var 2)) .non (.call 4 (.cons (.var 5) (.cons (.var 3) .nil))))))
    .nil))
    .nil)))
    (.cons (.ret (.primv .tuple 1))
    .nil)))
/-- coupling_of: 0:first 1:kernel 2:k 3:one -/
def b30 : Ss :=
    (.cons (.ret (.prim .tuple (.lc [2] (.nm 2) (.rg1 (.primv .len 0)) .non (.prim .tuple (.lc [3] (.nm 3) (.seq (.ix 1 (.var 2))) .non (.call 3 (.cons (.ix 0 (.var 2)) (.cons (.var 3) .nil))))))))
    .nil)
/-- places_used: 0:table 1:i 2:j -/
def b31 : Ss :=
    (.cons (.ret (.lc2 [1, 2] (.nm 1) (.rg1 (.primv .len 0)) .non [2] (.nm 2) (.rg1 (.prim .len (.ix 0 (.var 1)))) (.som (.cmp .gt (.idx (.idx (.ix 0 (.var 1)) (.var 2)) (.int 0)) (.int 0))) (.tup (.cons (.var 1) (.cons (.var 2) .nil)))))
    .nil)
/-- plus_table: 0:first 1:second 2:one 3:other 4:a 5:b -/
def b32 : Ss :=
    (.cons (.ret (.prim .tuple (.lc [2, 3] (.tp (.cons (.nm 2) (.cons (.nm 3) .nil))) (.zip (.var 0) (.var 1)) .non (.prim .tuple (.lc [4, 5] (.tp (.cons (.nm 4) (.cons (.nm 5) .nil))) (.zip (.var 2) (.var 3)) .non (.call 1 (.cons (.var 4) (.cons (.var 5) .nil))))))))
    .nil)
/-- scaled_table: 0:table 1:scale 2:row 3:one -/
def b33 : Ss :=
    (.cons (.ret (.prim .tuple (.lc [2] (.nm 2) (.seq (.var 0)) .non (.prim .tuple (.lc [3] (.nm 3) (.seq (.var 2)) .non (.call 3 (.cons (.var 3) (.cons (.var 1) .nil))))))))
    .nil)
/-- _law_next: 0:tape 1:many 2:rest 3:cell -/
def b34 : Ss :=
    (.cons (.asg (.nm 2) (.ix 0 (.int 2)))
    (.cons (.ife (.cmpL .eq 2 (.int 0)) (.cons (.asg (.nm 3) (.int 0))
    (.cons (.ife (.cmp .lt (.ix 0 (.int 1)) (.prim .len (.ix 0 (.int 0)))) (.cons (.asg (.nm 3) (.prim .abs (.prim .int (.idx (.ix 0 (.int 0)) (.ix 0 (.int 1))))))
    (.cons (.asg (.ix 0 (.int 1)) (.bin .add (.ix 0 (.int 1)) (.int 1)))
    .nil)) .nil)
    (.cons (.asg (.nm 2) (.var 3))
    (.cons (.ife (.cmpL .lt 3 (.bin .pow (.int 10) (.int 18))) (.cons (.asg (.ix 0 (.int 3)) (.bin .mod (.prim .int (.bin .add (.bin .add (.bin .mul (.ix 0 (.int 3)) (.int 69621)) (.bin .mul (.var 3) (.int 40692))) (.int 17))) (.int 2147483647)))
    (.cons (.ret (.bin .mod (.bin .mod (.prim .int (.bin .mul (.prim .int (.bin .fdiv (.ix 0 (.int 3)) (.int 5))) (.int 48271))) (.int 2147483647)) (.var 1)))
    .nil)) .nil)
    .nil)))) .nil)
    (.cons (.asg (.ix 0 (.int 2)) (.bin .fdiv (.var 2) (.var 1)))
    (.cons (.ret (.bin .mod (.primv .int 2) (.var 1)))
    .nil))))
/-- _law_same: 0:told 1:due 2:k -/
def b35 : Ss :=
    (.cons (.ife (.isnv false 1) (.cons (.ret (.isnv false 0))
    .nil) .nil)
    (.cons (.ife (.isiv 1 .bool) (.cons (.ret (.and (.isiv 0 .bool) (.cmpL .eq 0 (.var 1))))
    .nil) .nil)
    (.cons (.ife (.isiv 1 .int) (.cons (.ret (.and (.isiv 0 .int) (.and (.not (.isiv 0 .bool)) (.cmpL .eq 0 (.var 1)))))
    .nil) .nil)
    (.cons (.ife (.isiv 1 .str) (.cons (.ret (.and (.isiv 0 .str) (.cmpL .eq 0 (.var 1))))
    .nil) .nil)
    (.cons (.ife (.or (.and (.isiv 1 .list) (.not (.isiv 0 .list))) (.and (.isiv 1 .tuple) (.not (.isiv 0 .tuple)))) (.cons (.ret (.bl false))
    .nil) .nil)
    (.cons (.ret (.and (.cmp .eq (.primv .len 0) (.primv .len 1)) (.cmp .eq (.lc [2] (.nm 2) (.rg1 (.primv .len 1)) (.som (.not (.call 35 (.cons (.ix 0 (.var 2)) (.cons (.ix 1 (.var 2)) .nil))))) (.int 1)) (.lst .nil))))
    .nil))))))
/-- _law_least: 0:over 1:under 2:size 3:rest -/
def b36 : Ss :=
    (.cons (.par [2, 3] (.cons (.primv .abs 1) (.cons (.primv .abs 0) .nil)))
    (.cons (.whl (.cmpL .ne 3 (.int 0)) (.cons (.par [2, 3] (.cons (.var 3) (.cons (.bin .mod (.primv .int 2) (.var 3)) .nil)))
    .nil))
    (.cons (.ife (.cmpL .lt 1 (.int 0)) (.cons (.asg (.nm 2) (.bin .sub (.int 0) (.var 2)))
    .nil) .nil)
    (.cons (.ret (.tup (.cons (.bin .fdiv (.var 0) (.var 2)) (.cons (.bin .fdiv (.var 1) (.var 2)) .nil))))
    .nil))))
/-- _law_plus: 0:one 1:other -/
def b37 : Ss :=
    (.cons (.ret (.call 36 (.cons (.bin .add (.bin .mul (.ix 0 (.int 0)) (.ix 1 (.int 1))) (.bin .mul (.ix 1 (.int 0)) (.ix 0 (.int 1)))) (.cons (.bin .mul (.ix 0 (.int 1)) (.ix 1 (.int 1))) .nil))))
    .nil)
/-- _law_less: 0:one 1:other -/
def b38 : Ss :=
    (.cons (.ret (.cmp .lt (.bin .mul (.ix 0 (.int 0)) (.ix 1 (.int 1))) (.bin .mul (.ix 1 (.int 0)) (.ix 0 (.int 1)))))
    .nil)
/-- _law_minus: 0:one 1:other -/
def b39 : Ss :=
    (.cons (.ret (.call 36 (.cons (.bin .sub (.bin .mul (.ix 0 (.int 0)) (.ix 1 (.int 1))) (.bin .mul (.ix 1 (.int 0)) (.ix 0 (.int 1)))) (.cons (.bin .mul (.ix 0 (.int 1)) (.ix 1 (.int 1))) .nil))))
    .nil)
/-- _law_times: 0:one 1:other -/
def b40 : Ss :=
    (.cons (.ret (.call 36 (.cons (.bin .mul (.ix 0 (.int 0)) (.ix 1 (.int 0))) (.cons (.bin .mul (.ix 0 (.int 1)) (.ix 1 (.int 1))) .nil))))
    .nil)
/-- _law_total: 0:rows 1:total 2:one -/
def b41 : Ss :=
    (.cons (.asg (.nm 1) (.tup (.cons (.int 0) (.cons (.int 1) .nil))))
    (.cons (.for (.nm 2) (.seq (.var 0)) (.cons (.asg (.nm 1) (.call 37 (.cons (.var 1) (.cons (.var 2) .nil))))
    .nil))
    (.cons (.ret (.mov 1))
    .nil)))
/-- _law_row: 0:tape 1:many 2:parts 3:k 4:one -/
def b42 : Ss :=
    (.cons (.asg (.nm 2) (.lc [3] (.nm 3) (.rg1 (.var 1)) .non (.cio 34 0 (.cons (.int 4) .nil))))
    (.cons (.augi 2 (.cio 34 0 (.cons (.var 1) .nil)) .add (.int 1))
    (.cons (.ret (.prim .tuple (.lc [4] (.nm 4) (.seq (.var 2)) .non (.call 36 (.cons (.var 4) (.cons (.primv .sum 2) .nil))))))
    .nil)))
/-- _law_pairs: 0:tape 1:most 2:many 3:parts 4:k 5:under 6:value 7:found -/
def b43 : Ss :=
    (.cons (.asg (.nm 2) (.bin .add (.int 1) (.cio 34 0 (.cons (.var 1) .nil))))
    (.cons (.par [5, 6, 7] (.cons (.bin .add (.int 1) (.cio 34 0 (.cons (.int 3) .nil))) (.cons (.bin .sub (.cio 34 0 (.cons (.int 9) .nil)) (.int 4)) (.cons (.lst .nil) .nil))))
    (.cons (.asg (.nm 3) (.lc [4] (.nm 4) (.rg1 (.var 2)) .non (.bin .add (.int 1) (.cio 34 0 (.cons (.int 4) .nil)))))
    (.cons (.for (.nm 4) (.rg1 (.var 2)) (.cons (.app 7 (.tup (.cons (.call 36 (.cons (.var 6) (.cons (.var 5) .nil))) (.cons (.call 36 (.cons (.ix 3 (.var 4)) (.cons (.primv .sum 3) .nil))) .nil))))
    (.cons (.asg (.nm 6) (.bin .add (.bin .add (.var 6) (.int 1)) (.cio 34 0 (.cons (.int 3) .nil))))
    .nil)))
    (.cons (.ret (.primv .tuple 7))
    .nil)))))
/-- _law_over: 0:pairs 1:mark 2:value 3:chance -/
def b44 : Ss :=
    (.cons (.ret (.call 41 (.cons (.lc [2, 3] (.tp (.cons (.nm 2) (.cons (.nm 3) .nil))) (.seq (.var 0)) (.som (.call 38 (.cons (.var 1) (.cons (.var 2) .nil)))) (.call 40 (.cons (.call 39 (.cons (.var 2) (.cons (.var 1) .nil))) (.cons (.var 3) .nil)))) .nil)))
    .nil)
/-- _law_up: 0:pairs 1:mark 2:value 3:chance -/
def b45 : Ss :=
    (.cons (.ret (.call 41 (.cons (.lc [2, 3] (.tp (.cons (.nm 2) (.cons (.nm 3) .nil))) (.seq (.var 0)) (.som (.not (.call 38 (.cons (.var 1) (.cons (.var 2) .nil))))) (.var 3)) .nil)))
    .nil)
/-- _law_mean: 0:pairs 1:value 2:chance -/
def b46 : Ss :=
    (.cons (.ret (.call 41 (.cons (.lc [1, 2] (.tp (.cons (.nm 1) (.cons (.nm 2) .nil))) (.seq (.var 0)) .non (.call 40 (.cons (.var 1) (.cons (.var 2) .nil)))) .nil)))
    .nil)
/-- _law_marks: 0:rows 1:found 2:pairs 3:value 4:chance 5:at 6:one -/
def b47 : Ss :=
    (.cons (.asg (.nm 1) (.lst .nil))
    (.cons (.for (.nm 2) (.seq (.var 0)) (.cons (.for (.tp (.cons (.nm 3) (.cons (.nm 4) .nil))) (.seq (.var 2)) (.cons (.asg (.nm 5) (.prim .len (.lc [6] (.nm 6) (.seq (.var 1)) (.som (.call 38 (.cons (.var 6) (.cons (.var 3) .nil)))) (.var 6))))
    (.cons (.asg (.nm 1) (.ife (.cmpL .in_ 3 (.var 1)) (.var 1) (.bin .add (.bin .add (.slv 1 .non (.som (.var 5))) (.lst (.cons (.var 3) .nil))) (.slv 1 (.som (.var 5)) .non))))
    .nil)))
    .nil))
    (.cons (.ret (.mov 1))
    .nil)))
/-- _law_table: 0:tape 1:many 2:columns 3:j 4:k -/
def b48 : Ss :=
    (.cons (.ret (.prim .tuple (.lc [3] (.nm 3) (.rg1 (.var 1)) .non (.prim .tuple (.lc [4] (.nm 4) (.rg1 (.var 2)) .non (.call 36 (.cons (.bin .sub (.cio 34 0 (.cons (.int 9) .nil)) (.int 3)) (.cons (.bin .add (.int 1) (.cio 34 0 (.cons (.int 3) .nil))) .nil))))))))
    .nil)
/-- _law_product: 0:first 1:second 2:columns 3:found 4:row 5:k 6:j -/
def b49 : Ss :=
    (.cons (.asg (.nm 3) (.lst .nil))
    (.cons (.for (.nm 4) (.seq (.var 0)) (.cons (.app 3 (.prim .tuple (.lc [5] (.nm 5) (.rg1 (.var 2)) .non (.call 41 (.cons (.lc [6] (.nm 6) (.rg1 (.primv .len 4)) .non (.call 40 (.cons (.ix 4 (.var 6)) (.cons (.idx (.ix 1 (.var 6)) (.var 5)) .nil)))) .nil)))))
    .nil))
    (.cons (.ret (.primv .tuple 3))
    .nil)))
/-- _law_corner: 0:first 1:second 2:i 3:found 4:up 5:j 6:row 7:right 8:end 9:low 10:high -/
def b50 : Ss :=
    (.cons (.par [3, 4] (.cons (.lst .nil) (.cons (.tup (.cons (.int 0) (.cons (.int 1) .nil))) .nil)))
    (.cons (.for (.nm 2) (.rg1 (.primv .len 0)) (.cons (.par [6, 7] (.cons (.lst .nil) (.cons (.tup (.cons (.int 0) (.cons (.int 1) .nil))) .nil)))
    (.cons (.for (.nm 5) (.rg1 (.primv .len 1)) (.cons (.par [9, 10] (.cons (.ife (.call 38 (.cons (.var 7) (.cons (.var 4) .nil))) (.var 4) (.var 7)) (.cons (.call 37 (.cons (.var 4) (.cons (.ix 0 (.var 2)) .nil))) .nil)))
    (.cons (.asg (.nm 7) (.call 37 (.cons (.var 7) (.cons (.ix 1 (.var 5)) .nil))))
    (.cons (.asg (.nm 8) (.ife (.call 38 (.cons (.var 7) (.cons (.var 10) .nil))) (.var 7) (.var 10)))
    (.cons (.app 6 (.ife (.call 38 (.cons (.var 9) (.cons (.var 8) .nil))) (.call 39 (.cons (.var 8) (.cons (.var 9) .nil))) (.tup (.cons (.int 0) (.cons (.int 1) .nil)))))
    .nil)))))
    (.cons (.asg (.nm 4) (.call 37 (.cons (.var 4) (.cons (.ix 0 (.var 2)) .nil))))
    (.cons (.app 3 (.primv .tuple 6))
    .nil)))))
    (.cons (.ret (.primv .tuple 3))
    .nil)))
/-- _law_is: 0:first 1:second 2:value 3:row 4:k 5:one -/
def b51 : Ss :=
    (.cons (.ife (.or (.not (.isiv 2 .tuple)) (.or (.cmp .ne (.primv .len 2) (.primv .len 0)) (.cmp .ne (.lc [3] (.nm 3) (.seq (.var 2)) (.som (.or (.not (.isiv 3 .tuple)) (.cmp .ne (.primv .len 3) (.primv .len 1)))) (.var 3)) (.lst .nil)))) (.cons (.ret (.bl false))
    .nil) .nil)
    (.cons (.for (.nm 3) (.seq (.var 2)) (.cons (.ife (.cmp .ne (.lc [5] (.nm 5) (.seq (.var 3)) (.som (.or (.not (.call 52 (.cons (.var 5) .nil))) (.cmp .lt (.ix 5 (.int 0)) (.int 0)))) (.var 5)) (.lst .nil)) (.cons (.ret (.bl false))
    .nil) .nil)
    .nil))
    (.cons (.ife (.cmp .ne (.lc [4] (.nm 4) (.rg1 (.primv .len 0)) (.som (.cmp .ne (.call 41 (.cons (.ix 2 (.var 4)) .nil)) (.ix 0 (.var 4)))) (.var 4)) (.lst .nil)) (.cons (.ret (.bl false))
    .nil) .nil)
    (.cons (.ret (.cmp .eq (.lc [4] (.nm 4) (.rg1 (.primv .len 1)) (.som (.cmp .ne (.call 41 (.cons (.lc [3] (.nm 3) (.seq (.var 2)) .non (.ix 3 (.var 4))) .nil)) (.ix 1 (.var 4)))) (.var 4)) (.lst .nil)))
    .nil))))
/-- _law_good: 0:one 1:k -/
def b52 : Ss :=
    (.cons (.ife (.or (.not (.isiv 0 .tuple)) (.or (.cmp .ne (.primv .len 0) (.int 2)) (.cmp .ne (.lc [1] (.nm 1) (.seq (.var 0)) (.som (.or (.isiv 1 .bool) (.not (.isiv 1 .int)))) (.var 1)) (.lst .nil)))) (.cons (.ret (.bl false))
    .nil) .nil)
    (.cons (.ret (.and (.cmp .gt (.ix 0 (.int 1)) (.int 0)) (.cmpR .eq (.call 36 (.cons (.ix 0 (.int 0)) (.cons (.ix 0 (.int 1)) .nil))) 0)))
    .nil))
/-- _law_bent: 0:tape 1:table 2:new 3:row 4:i 5:j -/
def b53 : Ss :=
    (.cons (.par [4, 5] (.cons (.cio 34 0 (.cons (.primv .len 1) .nil)) (.cons (.cio 34 0 (.cons (.prim .len (.ix 1 (.int 0))) .nil)) .nil)))
    (.cons (.asg (.nm 2) (.idx (.lst (.cons (.tup (.cons (.int 0) (.cons (.int 1) .nil))) (.cons (.tup (.cons (.int 1) (.cons (.int 2) .nil))) (.cons (.tup (.cons (.neg (.int 1)) (.cons (.int 2) .nil))) (.cons (.tup (.cons (.int 2) (.cons (.int 4) .nil))) (.cons .non (.cons (.tup (.cons (.bl true) (.cons (.int 1) .nil))) (.cons (.int 1) (.cons (.tup (.cons (.int 1) (.cons (.int 0) .nil))) .nil))))))))) (.cio 34 0 (.cons (.int 8) .nil))))
    (.cons (.asg (.nm 3) (.bin .add (.bin .add (.sl (.ix 1 (.var 4)) .non (.som (.var 5))) (.tup (.cons (.var 2) .nil))) (.sl (.ix 1 (.var 4)) (.som (.bin .add (.var 5) (.int 1))) .non)))
    (.cons (.ret (.idx (.lst (.cons (.bin .add (.bin .add (.slv 1 .non (.som (.var 4))) (.tup (.cons (.var 3) .nil))) (.slv 1 (.som (.bin .add (.var 4) (.int 1))) .non)) (.cons (.slv 1 (.som (.int 1)) .non) (.cons (.revv 1) (.cons (.primv .list 1) (.cons .non (.cons (.bin .add (.tup (.cons (.prim .list (.ix 1 (.int 0))) .nil)) (.slv 1 (.som (.int 1)) .non)) (.cons (.bin .add (.var 1) (.slv 1 .non (.som (.int 1)))) .nil)))))))) (.cio 34 0 (.cons (.int 7) .nil))))
    .nil))))
/-- law: 0:script 1:tape 2:turned 3:told 4:product 5:both 6:dots 7:scale 8:square 9:plain 10:power 11:times 12:turn 13:even 14:corner 15:apart 16:used 17:i 18:kernel 19:value 20:odd 21:many 22:columns 23:wide 24:table 25:more 26:other 27:first 28:second 29:left 30:right 31:weights 32:k 33:j 34:a 35:one 36:row 37:b -/
def b54 : Ss :=
    (.cons (.asg (.nm 1) (.lst (.cons (.primv .list 0) (.cons (.int 0) (.cons (.int 0) (.cons (.int 2) .nil))))))
    (.cons (.asg (.tp (.cons (.nm 21) (.cons (.nm 22) (.cons (.nm 23) .nil)))) (.tup (.cons (.bin .add (.int 1) (.cio 34 1 (.cons (.int 4) .nil))) (.cons (.bin .add (.int 1) (.cio 34 1 (.cons (.int 4) .nil))) (.cons (.bin .add (.int 1) (.cio 34 1 (.cons (.int 3) .nil))) .nil)))))
    (.cons (.asg (.tp (.cons (.nm 24) (.cons (.nm 25) (.cons (.nm 26) .nil)))) (.tup (.cons (.cio 48 1 (.cons (.var 21) (.cons (.var 22) .nil))) (.cons (.cio 48 1 (.cons (.var 21) (.cons (.var 22) .nil))) (.cons (.cio 48 1 (.cons (.var 22) (.cons (.var 23) .nil))) .nil)))))
    (.cons (.asg (.nm 2) (.prim .tuple (.lc [32] (.nm 32) (.rg1 (.var 22)) .non (.prim .tuple (.lc [36] (.nm 36) (.seq (.var 24)) .non (.ix 36 (.var 32)))))))
    (.cons (.asg (.nm 3) (.lst (.cons (.call 15 (.cons (.var 24) .nil)) (.cons (.call 16 (.cons (.var 24) (.cons (.var 22) .nil))) (.cons (.call 19 (.cons (.var 24) (.cons (.var 22) .nil))) (.cons (.call 20 (.cons (.var 24) (.cons (.var 26) .nil))) (.cons (.call 21 (.cons (.ix 24 (.int 0)) (.cons (.var 26) .nil))) .nil)))))))
    (.cons (.asg (.nm 4) (.call 49 (.cons (.var 24) (.cons (.var 26) (.cons (.var 23) .nil)))))
    (.cons (.ife (.not (.call 35 (.cons (.var 3) (.cons (.lst (.cons (.prim .tuple (.lc [36] (.nm 36) (.seq (.var 24)) .non (.call 41 (.cons (.var 36) .nil)))) (.cons (.prim .tuple (.lc [36] (.nm 36) (.seq (.var 2)) .non (.call 41 (.cons (.var 36) .nil)))) (.cons (.var 2) (.cons (.var 4) (.cons (.ix 4 (.int 0)) .nil)))))) .nil)))) (.cons (.ret (.bl false))
    .nil) .nil)
    (.cons (.asg (.nm 5) (.prim .tuple (.lc [17] (.nm 17) (.rg1 (.var 21)) .non (.prim .tuple (.lc [33] (.nm 33) (.rg1 (.var 22)) .non (.call 37 (.cons (.idx (.ix 24 (.var 17)) (.var 33)) (.cons (.idx (.ix 25 (.var 17)) (.var 33)) .nil))))))))
    (.cons (.asg (.nm 6) (.lc [17] (.nm 17) (.rg1 (.var 21)) .non (.call 41 (.cons (.lc [33] (.nm 33) (.rg1 (.var 22)) .non (.call 40 (.cons (.idx (.ix 24 (.var 17)) (.var 33)) (.cons (.idx (.ix 25 (.var 17)) (.var 33)) .nil)))) .nil))))
    (.cons (.asg (.nm 7) (.call 36 (.cons (.bin .sub (.cio 34 1 (.cons (.int 7) .nil)) (.int 3)) (.cons (.int 2) .nil))))
    (.cons (.asg (.nm 3) (.lst (.cons (.call 32 (.cons (.var 24) (.cons (.var 25) .nil))) (.cons (.call 22 (.cons (.ix 24 (.int 0)) (.cons (.ix 25 (.int 0)) .nil))) (.cons (.call 23 (.cons (.var 24) (.cons (.var 25) .nil))) (.cons (.call 33 (.cons (.var 24) (.cons (.var 7) .nil))) .nil))))))
    (.cons (.ife (.not (.call 35 (.cons (.var 3) (.cons (.lst (.cons (.var 5) (.cons (.ix 6 (.int 0)) (.cons (.call 41 (.cons (.var 6) .nil)) (.cons (.prim .tuple (.lc [36] (.nm 36) (.seq (.var 24)) .non (.prim .tuple (.lc [35] (.nm 35) (.seq (.var 36)) .non (.call 40 (.cons (.var 35) (.cons (.var 7) .nil))))))) .nil))))) .nil)))) (.cons (.ret (.bl false))
    .nil) .nil)
    (.cons (.asg (.nm 8) (.prim .tuple (.lc [32] (.nm 32) (.rg1 (.var 22)) .non (.cio 42 1 (.cons (.var 22) .nil)))))
    (.cons (.asg (.nm 9) (.prim .tuple (.lc [33] (.nm 33) (.rg1 (.var 22)) .non (.prim .tuple (.lc [32] (.nm 32) (.rg1 (.var 22)) .non (.tup (.cons (.prim .int (.cmpL .eq 33 (.var 32))) (.cons (.int 1) .nil))))))))
    (.cons (.asg (.nm 10) (.var 9))
    (.cons (.asg (.nm 11) (.cio 34 1 (.cons (.int 4) .nil)))
    (.cons (.for (.nm 12) (.rg1 (.var 11)) (.cons (.asg (.nm 10) (.call 49 (.cons (.var 10) (.cons (.var 8) (.cons (.var 22) .nil)))))
    .nil))
    (.cons (.asg (.nm 13) (.prim .tuple (.lc [32] (.nm 32) (.rg1 (.var 22)) .non (.bin .mul (.tup (.cons (.call 36 (.cons (.int 1) (.cons (.var 22) .nil))) .nil)) (.var 22)))))
    (.cons (.ife (.or (.not (.call 35 (.cons (.lst (.cons (.call 26 (.cons (.var 8) (.cons (.var 11) .nil))) (.cons (.call 24 (.cons (.var 22) .nil)) (.cons (.call 25 (.cons (.var 22) .nil)) .nil)))) (.cons (.lst (.cons (.var 10) (.cons (.var 9) (.cons (.var 13) .nil)))) .nil)))) (.isb true (.call 13 (.cons (.var 10) .nil)) true)) (.cons (.ret (.bl false))
    .nil) .nil)
    (.cons (.asg (.tp (.cons (.nm 27) (.cons (.nm 28) .nil))) (.tup (.cons (.cio 42 1 (.cons (.var 21) .nil)) (.cons (.cio 42 1 (.cons (.var 22) .nil)) .nil))))
    (.cons (.asg (.nm 7) (.call 36 (.cons (.bin .add (.int 1) (.cio 34 1 (.cons (.int 5) .nil))) (.cons (.bin .add (.int 1) (.cio 34 1 (.cons (.int 3) .nil))) .nil))))
    (.cons (.asg (.tp (.cons (.nm 29) (.cons (.nm 30) .nil))) (.tup (.cons (.prim .tuple (.lc [35] (.nm 35) (.seq (.var 27)) .non (.call 40 (.cons (.var 35) (.cons (.var 7) .nil))))) (.cons (.prim .tuple (.lc [35] (.nm 35) (.seq (.var 28)) .non (.call 40 (.cons (.var 35) (.cons (.var 7) .nil))))) .nil))))
    (.cons (.asg (.nm 14) (.call 50 (.cons (.var 29) (.cons (.var 30) .nil))))
    (.cons (.asg (.nm 15) (.prim .tuple (.lc [34] (.nm 34) (.seq (.var 27)) .non (.prim .tuple (.lc [37] (.nm 37) (.seq (.var 28)) .non (.call 40 (.cons (.var 34) (.cons (.var 37) .nil))))))))
    (.cons (.ife (.not (.call 35 (.cons (.lst (.cons (.call 28 (.cons (.var 29) (.cons (.var 30) .nil))) (.cons (.call 27 (.cons (.var 27) (.cons (.var 28) .nil))) .nil))) (.cons (.lst (.cons (.var 14) (.cons (.var 15) .nil))) .nil)))) (.cons (.ret (.bl false))
    .nil) .nil)
    (.cons (.asg (.nm 16) (.lst .nil))
    (.cons (.for (.nm 17) (.rg1 (.var 21)) (.cons (.asg (.nm 16) (.bin .add (.var 16) (.lc [33] (.nm 33) (.rg1 (.var 22)) (.som (.cmp .gt (.idx (.idx (.ix 14 (.var 17)) (.var 33)) (.int 0)) (.int 0))) (.tup (.cons (.var 17) (.cons (.var 33) .nil))))))
    .nil))
    (.cons (.asg (.nm 18) (.prim .tuple (.lc [17] (.nm 17) (.rg1 (.var 21)) .non (.ife (.cmp .gt (.idx (.ix 29 (.var 17)) (.int 0)) (.int 0)) (.prim .tuple (.lc [35] (.nm 35) (.seq (.ix 14 (.var 17))) .non (.call 40 (.cons (.var 35) (.cons (.tup (.cons (.idx (.ix 29 (.var 17)) (.int 1)) (.cons (.idx (.ix 29 (.var 17)) (.int 0)) .nil))) .nil))))) (.bin .add (.tup (.cons (.tup (.cons (.int 1) (.cons (.int 1) .nil))) .nil)) (.bin .mul (.tup (.cons (.tup (.cons (.int 0) (.cons (.int 1) .nil))) .nil)) (.bin .sub (.var 22) (.int 1))))))))
    (.cons (.ife (.not (.call 35 (.cons (.lst (.cons (.call 31 (.cons (.var 14) .nil)) (.cons (.call 29 (.cons (.var 14) .nil)) (.cons (.call 30 (.cons (.var 29) (.cons (.var 18) .nil))) .nil)))) (.cons (.lst (.cons (.var 16) (.cons (.var 18) (.cons (.var 14) .nil)))) .nil)))) (.cons (.ret (.bl false))
    .nil) .nil)
    (.cons (.for (.nm 19) (.seq (.tup (.cons (.var 14) (.cons (.var 15) (.cons (.cio 53 1 (.cons (.var 14) .nil)) (.cons (.cio 53 1 (.cons (.var 14) .nil)) (.cons (.cio 53 1 (.cons (.var 15) .nil)) .nil))))))) (.cons (.ife (.not (.call 35 (.cons (.call 17 (.cons (.var 29) (.cons (.var 30) (.cons (.var 19) .nil)))) (.cons (.call 51 (.cons (.var 29) (.cons (.var 30) (.cons (.var 19) .nil)))) .nil)))) (.cons (.ret (.bl false))
    .nil) .nil)
    .nil))
    (.cons (.ife (.or (.isn true (.call 9 (.cons (.var 24) .nil))) (.or (.isn true (.call 14 (.cons (.var 8) .nil))) (.isn true (.call 11 (.cons (.var 29) .nil))))) (.cons (.ret (.bl false))
    .nil) .nil)
    (.cons (.asg (.nm 20) (.lst (.cons (.var 27) (.cons (.var 29) (.cons (.ix 24 (.int 0)) (.cons (.primv .list 27) (.cons (.bin .add (.var 27) (.tup (.cons (.tup (.cons (.neg (.int 1)) (.cons (.int 1) .nil))) (.cons (.tup (.cons (.int 1) (.cons (.int 1) .nil))) .nil)))) (.cons .non (.cons (.tup .nil) (.cons (.bin .add (.slv 27 (.som (.int 1)) .non) (.tup (.cons (.tup (.cons (.int 2) (.cons (.int 4) .nil))) .nil))) (.cons (.tup (.cons (.int 1) .nil)) .nil)))))))))))
    (.cons (.for (.nm 19) (.seq (.var 20)) (.cons (.asg (.nm 9) (.and (.isiv 19 .tuple) (.cmp .eq (.lc [35] (.nm 35) (.seq (.var 19)) (.som (.not (.call 52 (.cons (.var 35) .nil)))) (.var 35)) (.lst .nil))))
    (.cons (.asg (.nm 31) (.and (.var 9) (.cmp .eq (.lc [35] (.nm 35) (.seq (.var 19)) (.som (.cmp .lt (.ix 35 (.int 0)) (.int 0))) (.var 35)) (.lst .nil))))
    (.cons (.ife (.not (.call 35 (.cons (.lst (.cons (.call 7 (.cons (.var 19) .nil)) (.cons (.call 10 (.cons (.var 19) .nil)) (.cons (.call 12 (.cons (.var 19) .nil)) .nil)))) (.cons (.lst (.cons (.var 9) (.cons (.var 31) (.cons (.and (.var 31) (.cmp .eq (.call 41 (.cons (.var 19) .nil)) (.tup (.cons (.int 1) (.cons (.int 1) .nil))))) .nil)))) .nil)))) (.cons (.ret (.bl false))
    .nil) .nil)
    .nil))))
    (.cons (.asg (.nm 20) (.lst (.cons (.var 24) (.cons (.var 8) (.cons (.tup .nil) (.cons (.primv .list 24) (.cons (.bin .add (.var 24) (.tup (.cons (.tup .nil) .nil))) (.cons .non (.cons (.bin .add (.var 8) (.tup (.cons (.bin .add (.var 27) (.var 27)) .nil))) (.cons (.tup (.cons .non .nil)) .nil))))))))))
    (.cons (.for (.nm 19) (.seq (.var 20)) (.cons (.asg (.nm 9) (.and (.isiv 19 .tuple) (.and (.cmp .eq (.lc [36] (.nm 36) (.seq (.var 19)) (.som (.not (.isiv 36 .tuple))) (.var 36)) (.lst .nil)) (.cmp .eq (.lc [36] (.nm 36) (.seq (.var 19)) (.som (.cmp .ne (.primv .len 36) (.prim .len (.ix 19 (.int 0))))) (.var 36)) (.lst .nil)))))
    (.cons (.asg (.nm 18) (.and (.var 9) (.cmp .eq (.lc [36] (.nm 36) (.seq (.var 19)) (.som (.or (.cmp .ne (.lc [35] (.nm 35) (.seq (.var 36)) (.som (.cmp .lt (.ix 35 (.int 0)) (.int 0))) (.var 35)) (.lst .nil)) (.cmp .ne (.call 41 (.cons (.var 36) .nil)) (.tup (.cons (.int 1) (.cons (.int 1) .nil)))))) (.var 36)) (.lst .nil))))
    (.cons (.ife (.not (.call 35 (.cons (.lst (.cons (.call 8 (.cons (.var 19) .nil)) (.cons (.call 13 (.cons (.var 19) .nil)) .nil))) (.cons (.lst (.cons (.var 9) (.cons (.var 18) .nil))) .nil)))) (.cons (.ret (.bl false))
    .nil) .nil)
    .nil))))
    (.cons (.ret (.bl true))
    .nil))))))))))))))))))))))))))))))))))))
def bn : List Str := ["abs", "all", "bool", "int", "isinstance", "len", "list", "range", "str", "sum", "tuple", "zip"]
def fns : List FnI := [⟨"made", 2, false⟩, ⟨"plus_f", 2, false⟩, ⟨"minus_f", 2, false⟩, ⟨"times_f", 2, false⟩, ⟨"over_f", 2, false⟩, ⟨"sum_f", 1, false⟩, ⟨"is_fraction", 1, false⟩, ⟨"is_row_of_f", 1, false⟩, ⟨"is_table", 1, false⟩, ⟨"check_table", 1, false⟩, ⟨"is_weights", 1, false⟩, ⟨"check_weights", 1, false⟩, ⟨"is_chances", 1, false⟩, ⟨"is_kernel", 1, false⟩, ⟨"check_kernel", 1, false⟩, ⟨"row_sums", 1, false⟩, ⟨"column_sums", 2, false⟩, ⟨"is_coupling", 3, false⟩, ⟨"check_like_sums", 2, false⟩, ⟨"turned_table", 2, false⟩, ⟨"times_table", 2, false⟩, ⟨"times_row", 2, false⟩, ⟨"dot_f", 2, false⟩, ⟨"dot_table", 2, false⟩, ⟨"plain_kernel", 1, false⟩, ⟨"even_kernel", 1, false⟩, ⟨"kernel_power", 2, false⟩, ⟨"apart_coupling", 2, false⟩, ⟨"corner_coupling", 2, false⟩, ⟨"kernel_of", 1, false⟩, ⟨"coupling_of", 2, false⟩, ⟨"places_used", 1, false⟩, ⟨"plus_table", 2, false⟩, ⟨"scaled_table", 2, false⟩, ⟨"_law_next", 2, true⟩, ⟨"_law_same", 2, false⟩, ⟨"_law_least", 2, false⟩, ⟨"_law_plus", 2, false⟩, ⟨"_law_less", 2, false⟩, ⟨"_law_minus", 2, false⟩, ⟨"_law_times", 2, false⟩, ⟨"_law_total", 1, false⟩, ⟨"_law_row", 2, true⟩, ⟨"_law_pairs", 2, true⟩, ⟨"_law_over", 2, false⟩, ⟨"_law_up", 2, false⟩, ⟨"_law_mean", 1, false⟩, ⟨"_law_marks", 1, false⟩, ⟨"_law_table", 3, true⟩, ⟨"_law_product", 3, false⟩, ⟨"_law_corner", 2, false⟩, ⟨"_law_is", 3, false⟩, ⟨"_law_good", 1, false⟩, ⟨"_law_bent", 2, true⟩, ⟨"law", 1, false⟩]
/-- the defs, calls nested at most as deep as the number says -/
def call : Nat → Nat → List T → Cr
  | 0, _, _ => .bad
  | d + 1, f, ts => match f with
    | 0 => run ⟨false, call d, fun _ _ => .bad, fun _ _ _ => .bad⟩ 5 b0 ts
    | 1 => run ⟨false, call d, fun _ _ => .bad, fun _ _ _ => .bad⟩ 2 b1 ts
    | 2 => run ⟨false, call d, fun _ _ => .bad, fun _ _ _ => .bad⟩ 2 b2 ts
    | 3 => run ⟨false, call d, fun _ _ => .bad, fun _ _ _ => .bad⟩ 2 b3 ts
    | 4 => run ⟨false, call d, fun _ _ => .bad, fun _ _ _ => .bad⟩ 2 b4 ts
    | 5 => run ⟨false, call d, fun _ _ => .bad, fun _ _ _ => .bad⟩ 3 b5 ts
    | 6 => run ⟨false, call d, fun _ _ => .bad, fun _ _ _ => .bad⟩ 2 b6 ts
    | 7 => run ⟨false, call d, fun _ _ => .bad, fun _ _ _ => .bad⟩ 2 b7 ts
    | 8 => run ⟨false, call d, fun _ _ => .bad, fun _ _ _ => .bad⟩ 2 b8 ts
    | 9 => run ⟨false, call d, fun _ _ => .bad, fun _ _ _ => .bad⟩ 1 b9 ts
    | 10 => run ⟨false, call d, fun _ _ => .bad, fun _ _ _ => .bad⟩ 2 b10 ts
    | 11 => run ⟨false, call d, fun _ _ => .bad, fun _ _ _ => .bad⟩ 1 b11 ts
    | 12 => run ⟨false, call d, fun _ _ => .bad, fun _ _ _ => .bad⟩ 1 b12 ts
    | 13 => run ⟨false, call d, fun _ _ => .bad, fun _ _ _ => .bad⟩ 2 b13 ts
    | 14 => run ⟨false, call d, fun _ _ => .bad, fun _ _ _ => .bad⟩ 2 b14 ts
    | 15 => run ⟨false, call d, fun _ _ => .bad, fun _ _ _ => .bad⟩ 2 b15 ts
    | 16 => run ⟨false, call d, fun _ _ => .bad, fun _ _ _ => .bad⟩ 4 b16 ts
    | 17 => run ⟨false, call d, fun _ _ => .bad, fun _ _ _ => .bad⟩ 5 b17 ts
    | 18 => run ⟨false, call d, fun _ _ => .bad, fun _ _ _ => .bad⟩ 2 b18 ts
    | 19 => run ⟨false, call d, fun _ _ => .bad, fun _ _ _ => .bad⟩ 4 b19 ts
    | 20 => run ⟨false, call d, fun _ _ => .bad, fun _ _ _ => .bad⟩ 7 b20 ts
    | 21 => run ⟨false, call d, fun _ _ => .bad, fun _ _ _ => .bad⟩ 2 b21 ts
    | 22 => run ⟨false, call d, fun _ _ => .bad, fun _ _ _ => .bad⟩ 3 b22 ts
    | 23 => run ⟨false, call d, fun _ _ => .bad, fun _ _ _ => .bad⟩ 3 b23 ts
    | 24 => run ⟨false, call d, fun _ _ => .bad, fun _ _ _ => .bad⟩ 3 b24 ts
    | 25 => run ⟨false, call d, fun _ _ => .bad, fun _ _ _ => .bad⟩ 2 b25 ts
    | 26 => run ⟨false, call d, fun _ _ => .bad, fun _ _ _ => .bad⟩ 4 b26 ts
    | 27 => run ⟨false, call d, fun _ _ => .bad, fun _ _ _ => .bad⟩ 4 b27 ts
    | 28 => run ⟨false, call d, fun _ _ => .bad, fun _ _ _ => .bad⟩ 11 b28 ts
    | 29 => run ⟨false, call d, fun _ _ => .bad, fun _ _ _ => .bad⟩ 6 b29 ts
    | 30 => run ⟨false, call d, fun _ _ => .bad, fun _ _ _ => .bad⟩ 4 b30 ts
    | 31 => run ⟨false, call d, fun _ _ => .bad, fun _ _ _ => .bad⟩ 3 b31 ts
    | 32 => run ⟨false, call d, fun _ _ => .bad, fun _ _ _ => .bad⟩ 6 b32 ts
    | 33 => run ⟨false, call d, fun _ _ => .bad, fun _ _ _ => .bad⟩ 4 b33 ts
    | 34 => run ⟨true, call d, fun _ _ => .bad, fun _ _ _ => .bad⟩ 4 b34 ts
    | 35 => run ⟨false, call d, fun _ _ => .bad, fun _ _ _ => .bad⟩ 3 b35 ts
    | 36 => run ⟨false, call d, fun _ _ => .bad, fun _ _ _ => .bad⟩ 4 b36 ts
    | 37 => run ⟨false, call d, fun _ _ => .bad, fun _ _ _ => .bad⟩ 2 b37 ts
    | 38 => run ⟨false, call d, fun _ _ => .bad, fun _ _ _ => .bad⟩ 2 b38 ts
    | 39 => run ⟨false, call d, fun _ _ => .bad, fun _ _ _ => .bad⟩ 2 b39 ts
    | 40 => run ⟨false, call d, fun _ _ => .bad, fun _ _ _ => .bad⟩ 2 b40 ts
    | 41 => run ⟨false, call d, fun _ _ => .bad, fun _ _ _ => .bad⟩ 3 b41 ts
    | 42 => run ⟨true, call d, fun _ _ => .bad, fun _ _ _ => .bad⟩ 5 b42 ts
    | 43 => run ⟨true, call d, fun _ _ => .bad, fun _ _ _ => .bad⟩ 8 b43 ts
    | 44 => run ⟨false, call d, fun _ _ => .bad, fun _ _ _ => .bad⟩ 4 b44 ts
    | 45 => run ⟨false, call d, fun _ _ => .bad, fun _ _ _ => .bad⟩ 4 b45 ts
    | 46 => run ⟨false, call d, fun _ _ => .bad, fun _ _ _ => .bad⟩ 3 b46 ts
    | 47 => run ⟨false, call d, fun _ _ => .bad, fun _ _ _ => .bad⟩ 7 b47 ts
    | 48 => run ⟨true, call d, fun _ _ => .bad, fun _ _ _ => .bad⟩ 5 b48 ts
    | 49 => run ⟨false, call d, fun _ _ => .bad, fun _ _ _ => .bad⟩ 7 b49 ts
    | 50 => run ⟨false, call d, fun _ _ => .bad, fun _ _ _ => .bad⟩ 11 b50 ts
    | 51 => run ⟨false, call d, fun _ _ => .bad, fun _ _ _ => .bad⟩ 6 b51 ts
    | 52 => run ⟨false, call d, fun _ _ => .bad, fun _ _ _ => .bad⟩ 2 b52 ts
    | 53 => run ⟨true, call d, fun _ _ => .bad, fun _ _ _ => .bad⟩ 6 b53 ts
    | 54 => run ⟨false, call d, fun _ _ => .bad, fun _ _ _ => .bad⟩ 38 b54 ts
    | _ => .bad
abbrev cn (d : Nat) (io : Bool) : Cn := ⟨io, call d, fun _ _ => .bad, fun _ _ _ => .bad⟩
section
variable {P : Program} {w : World} {K : PySem.W.Frag} {mg : Str → Option Value} {base : Heap}
abbrev Yp (K : PySem.W.Frag) : Par := ⟨⟨fun _ => 0, K⟩, fun _ _ _ _ _ _ => False⟩
def N0 : List Str := (["over", "under", "sign", "size", "rest"] : List Str)
abbrev ck0 : Ck := ⟨N0, defScope (Hd.top 5), fun _ => true, fns, bn, false⟩
theorem ch0 : chSts ck0 b0 (defBody (Hd.top 5)) = true := by decide +kernel
theorem sc0 : FnScope N0 ["over", "under"] (defScope (Hd.top 5)) := ⟨rfl, rfl, rfl, by decide +kernel, rfl, by decide +kernel, by decide +kernel⟩
theorem st0 {d : Nat} {fa : Addr} {fd : FuncData} (F : FunD K "made" "made" (defArgs (Hd.top 5)) (defBody (Hd.top 5)) (defScope (Hd.top 5)) [] [] fa fd) (hm : mg "made" = some (.ref fa)) (hb : ∀ x ∈ bn, mg x = none)
    (IH : ∀ (j : Nat) (i : FnI), fns[j]? = some i → FnHas0 (Yp K) P w K mg base d i (call d j)) : FnHas0 (Yp K) P w K mg base (d + 1) ⟨"made", 2, false⟩ (call (d + 1) 0) :=
  ⟨fa, fd, ["over", "under"], hm, F.kp, F.bindsN (fun _ _ _ _ _ _ us hl => match us, hl with | [_, _], _ => rfl), fn_ok (c := ck0) F sc0 rfl rfl rfl (by decide) IH hb ch0⟩
theorem sz0 {fa : Addr} {fd : FuncData} (F : FunD K "made" "made" (defArgs (Hd.top 5)) (defBody (Hd.top 5)) (defScope (Hd.top 5)) [] [] fa fd) (hm : mg "made" = some (.ref fa)) : FnHas0 (Yp K) P w K mg base 0 ⟨"made", 2, false⟩ (fun _ => .bad) :=
  FnHas0.zero (ps := ["over", "under"]) hm F.kp (F.bindsN (fun _ _ _ _ _ _ us hl => match us, hl with | [_, _], _ => rfl))
def N1 : List Str := (["first", "second"] : List Str)
abbrev ck1 : Ck := ⟨N1, defScope (Hd.top 6), fun _ => true, fns, bn, false⟩
theorem ch1 : chSts ck1 b1 (defBody (Hd.top 6)) = true := by decide +kernel
theorem sc1 : FnScope N1 ["first", "second"] (defScope (Hd.top 6)) := ⟨rfl, rfl, rfl, by decide +kernel, rfl, by decide +kernel, by decide +kernel⟩
theorem st1 {d : Nat} {fa : Addr} {fd : FuncData} (F : FunD K "plus_f" "plus_f" (defArgs (Hd.top 6)) (defBody (Hd.top 6)) (defScope (Hd.top 6)) [] [] fa fd) (hm : mg "plus_f" = some (.ref fa)) (hb : ∀ x ∈ bn, mg x = none)
    (IH : ∀ (j : Nat) (i : FnI), fns[j]? = some i → FnHas0 (Yp K) P w K mg base d i (call d j)) : FnHas0 (Yp K) P w K mg base (d + 1) ⟨"plus_f", 2, false⟩ (call (d + 1) 1) :=
  ⟨fa, fd, ["first", "second"], hm, F.kp, F.bindsN (fun _ _ _ _ _ _ us hl => match us, hl with | [_, _], _ => rfl), fn_ok (c := ck1) F sc1 rfl rfl rfl (by decide) IH hb ch1⟩
theorem sz1 {fa : Addr} {fd : FuncData} (F : FunD K "plus_f" "plus_f" (defArgs (Hd.top 6)) (defBody (Hd.top 6)) (defScope (Hd.top 6)) [] [] fa fd) (hm : mg "plus_f" = some (.ref fa)) : FnHas0 (Yp K) P w K mg base 0 ⟨"plus_f", 2, false⟩ (fun _ => .bad) :=
  FnHas0.zero (ps := ["first", "second"]) hm F.kp (F.bindsN (fun _ _ _ _ _ _ us hl => match us, hl with | [_, _], _ => rfl))
def N2 : List Str := (["first", "second"] : List Str)
abbrev ck2 : Ck := ⟨N2, defScope (Hd.top 7), fun _ => true, fns, bn, false⟩
theorem ch2 : chSts ck2 b2 (defBody (Hd.top 7)) = true := by decide +kernel
theorem sc2 : FnScope N2 ["first", "second"] (defScope (Hd.top 7)) := ⟨rfl, rfl, rfl, by decide +kernel, rfl, by decide +kernel, by decide +kernel⟩
theorem st2 {d : Nat} {fa : Addr} {fd : FuncData} (F : FunD K "minus_f" "minus_f" (defArgs (Hd.top 7)) (defBody (Hd.top 7)) (defScope (Hd.top 7)) [] [] fa fd) (hm : mg "minus_f" = some (.ref fa)) (hb : ∀ x ∈ bn, mg x = none)
    (IH : ∀ (j : Nat) (i : FnI), fns[j]? = some i → FnHas0 (Yp K) P w K mg base d i (call d j)) : FnHas0 (Yp K) P w K mg base (d + 1) ⟨"minus_f", 2, false⟩ (call (d + 1) 2) :=
  ⟨fa, fd, ["first", "second"], hm, F.kp, F.bindsN (fun _ _ _ _ _ _ us hl => match us, hl with | [_, _], _ => rfl), fn_ok (c := ck2) F sc2 rfl rfl rfl (by decide) IH hb ch2⟩
theorem sz2 {fa : Addr} {fd : FuncData} (F : FunD K "minus_f" "minus_f" (defArgs (Hd.top 7)) (defBody (Hd.top 7)) (defScope (Hd.top 7)) [] [] fa fd) (hm : mg "minus_f" = some (.ref fa)) : FnHas0 (Yp K) P w K mg base 0 ⟨"minus_f", 2, false⟩ (fun _ => .bad) :=
  FnHas0.zero (ps := ["first", "second"]) hm F.kp (F.bindsN (fun _ _ _ _ _ _ us hl => match us, hl with | [_, _], _ => rfl))
def N3 : List Str := (["first", "second"] : List Str)
abbrev ck3 : Ck := ⟨N3, defScope (Hd.top 8), fun _ => true, fns, bn, false⟩
theorem ch3 : chSts ck3 b3 (defBody (Hd.top 8)) = true := by decide +kernel
theorem sc3 : FnScope N3 ["first", "second"] (defScope (Hd.top 8)) := ⟨rfl, rfl, rfl, by decide +kernel, rfl, by decide +kernel, by decide +kernel⟩
theorem st3 {d : Nat} {fa : Addr} {fd : FuncData} (F : FunD K "times_f" "times_f" (defArgs (Hd.top 8)) (defBody (Hd.top 8)) (defScope (Hd.top 8)) [] [] fa fd) (hm : mg "times_f" = some (.ref fa)) (hb : ∀ x ∈ bn, mg x = none)
    (IH : ∀ (j : Nat) (i : FnI), fns[j]? = some i → FnHas0 (Yp K) P w K mg base d i (call d j)) : FnHas0 (Yp K) P w K mg base (d + 1) ⟨"times_f", 2, false⟩ (call (d + 1) 3) :=
  ⟨fa, fd, ["first", "second"], hm, F.kp, F.bindsN (fun _ _ _ _ _ _ us hl => match us, hl with | [_, _], _ => rfl), fn_ok (c := ck3) F sc3 rfl rfl rfl (by decide) IH hb ch3⟩
theorem sz3 {fa : Addr} {fd : FuncData} (F : FunD K "times_f" "times_f" (defArgs (Hd.top 8)) (defBody (Hd.top 8)) (defScope (Hd.top 8)) [] [] fa fd) (hm : mg "times_f" = some (.ref fa)) : FnHas0 (Yp K) P w K mg base 0 ⟨"times_f", 2, false⟩ (fun _ => .bad) :=
  FnHas0.zero (ps := ["first", "second"]) hm F.kp (F.bindsN (fun _ _ _ _ _ _ us hl => match us, hl with | [_, _], _ => rfl))
def N4 : List Str := (["first", "second"] : List Str)
abbrev ck4 : Ck := ⟨N4, defScope (Hd.top 9), fun _ => true, fns, bn, false⟩
theorem ch4 : chSts ck4 b4 (defBody (Hd.top 9)) = true := by decide +kernel
theorem sc4 : FnScope N4 ["first", "second"] (defScope (Hd.top 9)) := ⟨rfl, rfl, rfl, by decide +kernel, rfl, by decide +kernel, by decide +kernel⟩
theorem st4 {d : Nat} {fa : Addr} {fd : FuncData} (F : FunD K "over_f" "over_f" (defArgs (Hd.top 9)) (defBody (Hd.top 9)) (defScope (Hd.top 9)) [] [] fa fd) (hm : mg "over_f" = some (.ref fa)) (hb : ∀ x ∈ bn, mg x = none)
    (IH : ∀ (j : Nat) (i : FnI), fns[j]? = some i → FnHas0 (Yp K) P w K mg base d i (call d j)) : FnHas0 (Yp K) P w K mg base (d + 1) ⟨"over_f", 2, false⟩ (call (d + 1) 4) :=
  ⟨fa, fd, ["first", "second"], hm, F.kp, F.bindsN (fun _ _ _ _ _ _ us hl => match us, hl with | [_, _], _ => rfl), fn_ok (c := ck4) F sc4 rfl rfl rfl (by decide) IH hb ch4⟩
theorem sz4 {fa : Addr} {fd : FuncData} (F : FunD K "over_f" "over_f" (defArgs (Hd.top 9)) (defBody (Hd.top 9)) (defScope (Hd.top 9)) [] [] fa fd) (hm : mg "over_f" = some (.ref fa)) : FnHas0 (Yp K) P w K mg base 0 ⟨"over_f", 2, false⟩ (fun _ => .bad) :=
  FnHas0.zero (ps := ["first", "second"]) hm F.kp (F.bindsN (fun _ _ _ _ _ _ us hl => match us, hl with | [_, _], _ => rfl))
def N5 : List Str := (["some", "found", "one"] : List Str)
abbrev ck5 : Ck := ⟨N5, defScope (Hd.top 10), fun _ => true, fns, bn, false⟩
theorem ch5 : chSts ck5 b5 (defBody (Hd.top 10)) = true := by decide +kernel
theorem sc5 : FnScope N5 ["some"] (defScope (Hd.top 10)) := ⟨rfl, rfl, rfl, by decide +kernel, rfl, by decide +kernel, by decide +kernel⟩
theorem st5 {d : Nat} {fa : Addr} {fd : FuncData} (F : FunD K "sum_f" "sum_f" (defArgs (Hd.top 10)) (defBody (Hd.top 10)) (defScope (Hd.top 10)) [] [] fa fd) (hm : mg "sum_f" = some (.ref fa)) (hb : ∀ x ∈ bn, mg x = none)
    (IH : ∀ (j : Nat) (i : FnI), fns[j]? = some i → FnHas0 (Yp K) P w K mg base d i (call d j)) : FnHas0 (Yp K) P w K mg base (d + 1) ⟨"sum_f", 1, false⟩ (call (d + 1) 5) :=
  ⟨fa, fd, ["some"], hm, F.kp, F.bindsN (fun _ _ _ _ _ _ us hl => match us, hl with | [_], _ => rfl), fn_ok (c := ck5) F sc5 rfl rfl rfl (by decide) IH hb ch5⟩
theorem sz5 {fa : Addr} {fd : FuncData} (F : FunD K "sum_f" "sum_f" (defArgs (Hd.top 10)) (defBody (Hd.top 10)) (defScope (Hd.top 10)) [] [] fa fd) (hm : mg "sum_f" = some (.ref fa)) : FnHas0 (Yp K) P w K mg base 0 ⟨"sum_f", 1, false⟩ (fun _ => .bad) :=
  FnHas0.zero (ps := ["some"]) hm F.kp (F.bindsN (fun _ _ _ _ _ _ us hl => match us, hl with | [_], _ => rfl))
def N6 : List Str := (["value", "one"] : List Str)
abbrev ck6 : Ck := ⟨N6, defScope (Hd.top 11), fun _ => true, fns, bn, false⟩
theorem ch6 : chSts ck6 b6 (defBody (Hd.top 11)) = true := by decide +kernel
theorem sc6 : FnScope N6 ["value"] (defScope (Hd.top 11)) := ⟨rfl, rfl, rfl, by decide +kernel, rfl, by decide +kernel, by decide +kernel⟩
theorem st6 {d : Nat} {fa : Addr} {fd : FuncData} (F : FunD K "is_fraction" "is_fraction" (defArgs (Hd.top 11)) (defBody (Hd.top 11)) (defScope (Hd.top 11)) [] [] fa fd) (hm : mg "is_fraction" = some (.ref fa)) (hb : ∀ x ∈ bn, mg x = none)
    (IH : ∀ (j : Nat) (i : FnI), fns[j]? = some i → FnHas0 (Yp K) P w K mg base d i (call d j)) : FnHas0 (Yp K) P w K mg base (d + 1) ⟨"is_fraction", 1, false⟩ (call (d + 1) 6) :=
  ⟨fa, fd, ["value"], hm, F.kp, F.bindsN (fun _ _ _ _ _ _ us hl => match us, hl with | [_], _ => rfl), fn_ok (c := ck6) F sc6 rfl rfl rfl (by decide) IH hb ch6⟩
theorem sz6 {fa : Addr} {fd : FuncData} (F : FunD K "is_fraction" "is_fraction" (defArgs (Hd.top 11)) (defBody (Hd.top 11)) (defScope (Hd.top 11)) [] [] fa fd) (hm : mg "is_fraction" = some (.ref fa)) : FnHas0 (Yp K) P w K mg base 0 ⟨"is_fraction", 1, false⟩ (fun _ => .bad) :=
  FnHas0.zero (ps := ["value"]) hm F.kp (F.bindsN (fun _ _ _ _ _ _ us hl => match us, hl with | [_], _ => rfl))
def N7 : List Str := (["value", "one"] : List Str)
abbrev ck7 : Ck := ⟨N7, defScope (Hd.top 13), fun _ => true, fns, bn, false⟩
theorem ch7 : chSts ck7 b7 (defBody (Hd.top 13)) = true := by decide +kernel
theorem sc7 : FnScope N7 ["value"] (defScope (Hd.top 13)) := ⟨rfl, rfl, rfl, by decide +kernel, rfl, by decide +kernel, by decide +kernel⟩
theorem st7 {d : Nat} {fa : Addr} {fd : FuncData} (F : FunD K "is_row_of_f" "is_row_of_f" (defArgs (Hd.top 13)) (defBody (Hd.top 13)) (defScope (Hd.top 13)) [] [] fa fd) (hm : mg "is_row_of_f" = some (.ref fa)) (hb : ∀ x ∈ bn, mg x = none)
    (IH : ∀ (j : Nat) (i : FnI), fns[j]? = some i → FnHas0 (Yp K) P w K mg base d i (call d j)) : FnHas0 (Yp K) P w K mg base (d + 1) ⟨"is_row_of_f", 1, false⟩ (call (d + 1) 7) :=
  ⟨fa, fd, ["value"], hm, F.kp, F.bindsN (fun _ _ _ _ _ _ us hl => match us, hl with | [_], _ => rfl), fn_ok (c := ck7) F sc7 rfl rfl rfl (by decide) IH hb ch7⟩
theorem sz7 {fa : Addr} {fd : FuncData} (F : FunD K "is_row_of_f" "is_row_of_f" (defArgs (Hd.top 13)) (defBody (Hd.top 13)) (defScope (Hd.top 13)) [] [] fa fd) (hm : mg "is_row_of_f" = some (.ref fa)) : FnHas0 (Yp K) P w K mg base 0 ⟨"is_row_of_f", 1, false⟩ (fun _ => .bad) :=
  FnHas0.zero (ps := ["value"]) hm F.kp (F.bindsN (fun _ _ _ _ _ _ us hl => match us, hl with | [_], _ => rfl))
def N8 : List Str := (["value", "row"] : List Str)
abbrev ck8 : Ck := ⟨N8, defScope (Hd.top 14), fun _ => true, fns, bn, false⟩
theorem ch8 : chSts ck8 b8 (defBody (Hd.top 14)) = true := by decide +kernel
theorem sc8 : FnScope N8 ["value"] (defScope (Hd.top 14)) := ⟨rfl, rfl, rfl, by decide +kernel, rfl, by decide +kernel, by decide +kernel⟩
theorem st8 {d : Nat} {fa : Addr} {fd : FuncData} (F : FunD K "is_table" "is_table" (defArgs (Hd.top 14)) (defBody (Hd.top 14)) (defScope (Hd.top 14)) [] [] fa fd) (hm : mg "is_table" = some (.ref fa)) (hb : ∀ x ∈ bn, mg x = none)
    (IH : ∀ (j : Nat) (i : FnI), fns[j]? = some i → FnHas0 (Yp K) P w K mg base d i (call d j)) : FnHas0 (Yp K) P w K mg base (d + 1) ⟨"is_table", 1, false⟩ (call (d + 1) 8) :=
  ⟨fa, fd, ["value"], hm, F.kp, F.bindsN (fun _ _ _ _ _ _ us hl => match us, hl with | [_], _ => rfl), fn_ok (c := ck8) F sc8 rfl rfl rfl (by decide) IH hb ch8⟩
theorem sz8 {fa : Addr} {fd : FuncData} (F : FunD K "is_table" "is_table" (defArgs (Hd.top 14)) (defBody (Hd.top 14)) (defScope (Hd.top 14)) [] [] fa fd) (hm : mg "is_table" = some (.ref fa)) : FnHas0 (Yp K) P w K mg base 0 ⟨"is_table", 1, false⟩ (fun _ => .bad) :=
  FnHas0.zero (ps := ["value"]) hm F.kp (F.bindsN (fun _ _ _ _ _ _ us hl => match us, hl with | [_], _ => rfl))
def N9 : List Str := (["value"] : List Str)
abbrev ck9 : Ck := ⟨N9, defScope (Hd.top 15), fun _ => true, fns, bn, false⟩
theorem ch9 : chSts ck9 b9 (defBody (Hd.top 15)) = true := by decide +kernel
theorem sc9 : FnScope N9 ["value"] (defScope (Hd.top 15)) := ⟨rfl, rfl, rfl, by decide +kernel, rfl, by decide +kernel, by decide +kernel⟩
theorem st9 {d : Nat} {fa : Addr} {fd : FuncData} (F : FunD K "check_table" "check_table" (defArgs (Hd.top 15)) (defBody (Hd.top 15)) (defScope (Hd.top 15)) [] [] fa fd) (hm : mg "check_table" = some (.ref fa)) (hb : ∀ x ∈ bn, mg x = none)
    (IH : ∀ (j : Nat) (i : FnI), fns[j]? = some i → FnHas0 (Yp K) P w K mg base d i (call d j)) : FnHas0 (Yp K) P w K mg base (d + 1) ⟨"check_table", 1, false⟩ (call (d + 1) 9) :=
  ⟨fa, fd, ["value"], hm, F.kp, F.bindsN (fun _ _ _ _ _ _ us hl => match us, hl with | [_], _ => rfl), fn_ok (c := ck9) F sc9 rfl rfl rfl (by decide) IH hb ch9⟩
theorem sz9 {fa : Addr} {fd : FuncData} (F : FunD K "check_table" "check_table" (defArgs (Hd.top 15)) (defBody (Hd.top 15)) (defScope (Hd.top 15)) [] [] fa fd) (hm : mg "check_table" = some (.ref fa)) : FnHas0 (Yp K) P w K mg base 0 ⟨"check_table", 1, false⟩ (fun _ => .bad) :=
  FnHas0.zero (ps := ["value"]) hm F.kp (F.bindsN (fun _ _ _ _ _ _ us hl => match us, hl with | [_], _ => rfl))
def N10 : List Str := (["value", "one"] : List Str)
abbrev ck10 : Ck := ⟨N10, defScope (Hd.top 16), fun _ => true, fns, bn, false⟩
theorem ch10 : chSts ck10 b10 (defBody (Hd.top 16)) = true := by decide +kernel
theorem sc10 : FnScope N10 ["value"] (defScope (Hd.top 16)) := ⟨rfl, rfl, rfl, by decide +kernel, rfl, by decide +kernel, by decide +kernel⟩
theorem st10 {d : Nat} {fa : Addr} {fd : FuncData} (F : FunD K "is_weights" "is_weights" (defArgs (Hd.top 16)) (defBody (Hd.top 16)) (defScope (Hd.top 16)) [] [] fa fd) (hm : mg "is_weights" = some (.ref fa)) (hb : ∀ x ∈ bn, mg x = none)
    (IH : ∀ (j : Nat) (i : FnI), fns[j]? = some i → FnHas0 (Yp K) P w K mg base d i (call d j)) : FnHas0 (Yp K) P w K mg base (d + 1) ⟨"is_weights", 1, false⟩ (call (d + 1) 10) :=
  ⟨fa, fd, ["value"], hm, F.kp, F.bindsN (fun _ _ _ _ _ _ us hl => match us, hl with | [_], _ => rfl), fn_ok (c := ck10) F sc10 rfl rfl rfl (by decide) IH hb ch10⟩
theorem sz10 {fa : Addr} {fd : FuncData} (F : FunD K "is_weights" "is_weights" (defArgs (Hd.top 16)) (defBody (Hd.top 16)) (defScope (Hd.top 16)) [] [] fa fd) (hm : mg "is_weights" = some (.ref fa)) : FnHas0 (Yp K) P w K mg base 0 ⟨"is_weights", 1, false⟩ (fun _ => .bad) :=
  FnHas0.zero (ps := ["value"]) hm F.kp (F.bindsN (fun _ _ _ _ _ _ us hl => match us, hl with | [_], _ => rfl))
def N11 : List Str := (["value"] : List Str)
abbrev ck11 : Ck := ⟨N11, defScope (Hd.top 17), fun _ => true, fns, bn, false⟩
theorem ch11 : chSts ck11 b11 (defBody (Hd.top 17)) = true := by decide +kernel
theorem sc11 : FnScope N11 ["value"] (defScope (Hd.top 17)) := ⟨rfl, rfl, rfl, by decide +kernel, rfl, by decide +kernel, by decide +kernel⟩
theorem st11 {d : Nat} {fa : Addr} {fd : FuncData} (F : FunD K "check_weights" "check_weights" (defArgs (Hd.top 17)) (defBody (Hd.top 17)) (defScope (Hd.top 17)) [] [] fa fd) (hm : mg "check_weights" = some (.ref fa)) (hb : ∀ x ∈ bn, mg x = none)
    (IH : ∀ (j : Nat) (i : FnI), fns[j]? = some i → FnHas0 (Yp K) P w K mg base d i (call d j)) : FnHas0 (Yp K) P w K mg base (d + 1) ⟨"check_weights", 1, false⟩ (call (d + 1) 11) :=
  ⟨fa, fd, ["value"], hm, F.kp, F.bindsN (fun _ _ _ _ _ _ us hl => match us, hl with | [_], _ => rfl), fn_ok (c := ck11) F sc11 rfl rfl rfl (by decide) IH hb ch11⟩
theorem sz11 {fa : Addr} {fd : FuncData} (F : FunD K "check_weights" "check_weights" (defArgs (Hd.top 17)) (defBody (Hd.top 17)) (defScope (Hd.top 17)) [] [] fa fd) (hm : mg "check_weights" = some (.ref fa)) : FnHas0 (Yp K) P w K mg base 0 ⟨"check_weights", 1, false⟩ (fun _ => .bad) :=
  FnHas0.zero (ps := ["value"]) hm F.kp (F.bindsN (fun _ _ _ _ _ _ us hl => match us, hl with | [_], _ => rfl))
def N12 : List Str := (["value"] : List Str)
abbrev ck12 : Ck := ⟨N12, defScope (Hd.top 18), fun _ => true, fns, bn, false⟩
theorem ch12 : chSts ck12 b12 (defBody (Hd.top 18)) = true := by decide +kernel
theorem sc12 : FnScope N12 ["value"] (defScope (Hd.top 18)) := ⟨rfl, rfl, rfl, by decide +kernel, rfl, by decide +kernel, by decide +kernel⟩
theorem st12 {d : Nat} {fa : Addr} {fd : FuncData} (F : FunD K "is_chances" "is_chances" (defArgs (Hd.top 18)) (defBody (Hd.top 18)) (defScope (Hd.top 18)) [] [] fa fd) (hm : mg "is_chances" = some (.ref fa)) (hb : ∀ x ∈ bn, mg x = none)
    (IH : ∀ (j : Nat) (i : FnI), fns[j]? = some i → FnHas0 (Yp K) P w K mg base d i (call d j)) : FnHas0 (Yp K) P w K mg base (d + 1) ⟨"is_chances", 1, false⟩ (call (d + 1) 12) :=
  ⟨fa, fd, ["value"], hm, F.kp, F.bindsN (fun _ _ _ _ _ _ us hl => match us, hl with | [_], _ => rfl), fn_ok (c := ck12) F sc12 rfl rfl rfl (by decide) IH hb ch12⟩
theorem sz12 {fa : Addr} {fd : FuncData} (F : FunD K "is_chances" "is_chances" (defArgs (Hd.top 18)) (defBody (Hd.top 18)) (defScope (Hd.top 18)) [] [] fa fd) (hm : mg "is_chances" = some (.ref fa)) : FnHas0 (Yp K) P w K mg base 0 ⟨"is_chances", 1, false⟩ (fun _ => .bad) :=
  FnHas0.zero (ps := ["value"]) hm F.kp (F.bindsN (fun _ _ _ _ _ _ us hl => match us, hl with | [_], _ => rfl))
def N13 : List Str := (["value", "row"] : List Str)
abbrev ck13 : Ck := ⟨N13, defScope (Hd.top 19), fun _ => true, fns, bn, false⟩
theorem ch13 : chSts ck13 b13 (defBody (Hd.top 19)) = true := by decide +kernel
theorem sc13 : FnScope N13 ["value"] (defScope (Hd.top 19)) := ⟨rfl, rfl, rfl, by decide +kernel, rfl, by decide +kernel, by decide +kernel⟩
theorem st13 {d : Nat} {fa : Addr} {fd : FuncData} (F : FunD K "is_kernel" "is_kernel" (defArgs (Hd.top 19)) (defBody (Hd.top 19)) (defScope (Hd.top 19)) [] [] fa fd) (hm : mg "is_kernel" = some (.ref fa)) (hb : ∀ x ∈ bn, mg x = none)
    (IH : ∀ (j : Nat) (i : FnI), fns[j]? = some i → FnHas0 (Yp K) P w K mg base d i (call d j)) : FnHas0 (Yp K) P w K mg base (d + 1) ⟨"is_kernel", 1, false⟩ (call (d + 1) 13) :=
  ⟨fa, fd, ["value"], hm, F.kp, F.bindsN (fun _ _ _ _ _ _ us hl => match us, hl with | [_], _ => rfl), fn_ok (c := ck13) F sc13 rfl rfl rfl (by decide) IH hb ch13⟩
theorem sz13 {fa : Addr} {fd : FuncData} (F : FunD K "is_kernel" "is_kernel" (defArgs (Hd.top 19)) (defBody (Hd.top 19)) (defScope (Hd.top 19)) [] [] fa fd) (hm : mg "is_kernel" = some (.ref fa)) : FnHas0 (Yp K) P w K mg base 0 ⟨"is_kernel", 1, false⟩ (fun _ => .bad) :=
  FnHas0.zero (ps := ["value"]) hm F.kp (F.bindsN (fun _ _ _ _ _ _ us hl => match us, hl with | [_], _ => rfl))
def N14 : List Str := (["value", "k"] : List Str)
abbrev ck14 : Ck := ⟨N14, defScope (Hd.top 20), fun _ => true, fns, bn, false⟩
theorem ch14 : chSts ck14 b14 (defBody (Hd.top 20)) = true := by decide +kernel
theorem sc14 : FnScope N14 ["value"] (defScope (Hd.top 20)) := ⟨rfl, rfl, rfl, by decide +kernel, rfl, by decide +kernel, by decide +kernel⟩
theorem st14 {d : Nat} {fa : Addr} {fd : FuncData} (F : FunD K "check_kernel" "check_kernel" (defArgs (Hd.top 20)) (defBody (Hd.top 20)) (defScope (Hd.top 20)) [] [] fa fd) (hm : mg "check_kernel" = some (.ref fa)) (hb : ∀ x ∈ bn, mg x = none)
    (IH : ∀ (j : Nat) (i : FnI), fns[j]? = some i → FnHas0 (Yp K) P w K mg base d i (call d j)) : FnHas0 (Yp K) P w K mg base (d + 1) ⟨"check_kernel", 1, false⟩ (call (d + 1) 14) :=
  ⟨fa, fd, ["value"], hm, F.kp, F.bindsN (fun _ _ _ _ _ _ us hl => match us, hl with | [_], _ => rfl), fn_ok (c := ck14) F sc14 rfl rfl rfl (by decide) IH hb ch14⟩
theorem sz14 {fa : Addr} {fd : FuncData} (F : FunD K "check_kernel" "check_kernel" (defArgs (Hd.top 20)) (defBody (Hd.top 20)) (defScope (Hd.top 20)) [] [] fa fd) (hm : mg "check_kernel" = some (.ref fa)) : FnHas0 (Yp K) P w K mg base 0 ⟨"check_kernel", 1, false⟩ (fun _ => .bad) :=
  FnHas0.zero (ps := ["value"]) hm F.kp (F.bindsN (fun _ _ _ _ _ _ us hl => match us, hl with | [_], _ => rfl))
def N15 : List Str := (["table", "row"] : List Str)
abbrev ck15 : Ck := ⟨N15, defScope (Hd.top 21), fun _ => true, fns, bn, false⟩
theorem ch15 : chSts ck15 b15 (defBody (Hd.top 21)) = true := by decide +kernel
theorem sc15 : FnScope N15 ["table"] (defScope (Hd.top 21)) := ⟨rfl, rfl, rfl, by decide +kernel, rfl, by decide +kernel, by decide +kernel⟩
theorem st15 {d : Nat} {fa : Addr} {fd : FuncData} (F : FunD K "row_sums" "row_sums" (defArgs (Hd.top 21)) (defBody (Hd.top 21)) (defScope (Hd.top 21)) [] [] fa fd) (hm : mg "row_sums" = some (.ref fa)) (hb : ∀ x ∈ bn, mg x = none)
    (IH : ∀ (j : Nat) (i : FnI), fns[j]? = some i → FnHas0 (Yp K) P w K mg base d i (call d j)) : FnHas0 (Yp K) P w K mg base (d + 1) ⟨"row_sums", 1, false⟩ (call (d + 1) 15) :=
  ⟨fa, fd, ["table"], hm, F.kp, F.bindsN (fun _ _ _ _ _ _ us hl => match us, hl with | [_], _ => rfl), fn_ok (c := ck15) F sc15 rfl rfl rfl (by decide) IH hb ch15⟩
theorem sz15 {fa : Addr} {fd : FuncData} (F : FunD K "row_sums" "row_sums" (defArgs (Hd.top 21)) (defBody (Hd.top 21)) (defScope (Hd.top 21)) [] [] fa fd) (hm : mg "row_sums" = some (.ref fa)) : FnHas0 (Yp K) P w K mg base 0 ⟨"row_sums", 1, false⟩ (fun _ => .bad) :=
  FnHas0.zero (ps := ["table"]) hm F.kp (F.bindsN (fun _ _ _ _ _ _ us hl => match us, hl with | [_], _ => rfl))
def N16 : List Str := (["table", "columns", "k", "row"] : List Str)
abbrev ck16 : Ck := ⟨N16, defScope (Hd.top 22), fun _ => true, fns, bn, false⟩
theorem ch16 : chSts ck16 b16 (defBody (Hd.top 22)) = true := by decide +kernel
theorem sc16 : FnScope N16 ["table", "columns"] (defScope (Hd.top 22)) := ⟨rfl, rfl, rfl, by decide +kernel, rfl, by decide +kernel, by decide +kernel⟩
theorem st16 {d : Nat} {fa : Addr} {fd : FuncData} (F : FunD K "column_sums" "column_sums" (defArgs (Hd.top 22)) (defBody (Hd.top 22)) (defScope (Hd.top 22)) [] [] fa fd) (hm : mg "column_sums" = some (.ref fa)) (hb : ∀ x ∈ bn, mg x = none)
    (IH : ∀ (j : Nat) (i : FnI), fns[j]? = some i → FnHas0 (Yp K) P w K mg base d i (call d j)) : FnHas0 (Yp K) P w K mg base (d + 1) ⟨"column_sums", 2, false⟩ (call (d + 1) 16) :=
  ⟨fa, fd, ["table", "columns"], hm, F.kp, F.bindsN (fun _ _ _ _ _ _ us hl => match us, hl with | [_, _], _ => rfl), fn_ok (c := ck16) F sc16 rfl rfl rfl (by decide) IH hb ch16⟩
theorem sz16 {fa : Addr} {fd : FuncData} (F : FunD K "column_sums" "column_sums" (defArgs (Hd.top 22)) (defBody (Hd.top 22)) (defScope (Hd.top 22)) [] [] fa fd) (hm : mg "column_sums" = some (.ref fa)) : FnHas0 (Yp K) P w K mg base 0 ⟨"column_sums", 2, false⟩ (fun _ => .bad) :=
  FnHas0.zero (ps := ["table", "columns"]) hm F.kp (F.bindsN (fun _ _ _ _ _ _ us hl => match us, hl with | [_, _], _ => rfl))
def N17 : List Str := (["first", "second", "value", "row", "one"] : List Str)
abbrev ck17 : Ck := ⟨N17, defScope (Hd.top 23), fun _ => true, fns, bn, false⟩
theorem ch17 : chSts ck17 b17 (defBody (Hd.top 23)) = true := by decide +kernel
theorem sc17 : FnScope N17 ["first", "second", "value"] (defScope (Hd.top 23)) := ⟨rfl, rfl, rfl, by decide +kernel, rfl, by decide +kernel, by decide +kernel⟩
theorem st17 {d : Nat} {fa : Addr} {fd : FuncData} (F : FunD K "is_coupling" "is_coupling" (defArgs (Hd.top 23)) (defBody (Hd.top 23)) (defScope (Hd.top 23)) [] [] fa fd) (hm : mg "is_coupling" = some (.ref fa)) (hb : ∀ x ∈ bn, mg x = none)
    (IH : ∀ (j : Nat) (i : FnI), fns[j]? = some i → FnHas0 (Yp K) P w K mg base d i (call d j)) : FnHas0 (Yp K) P w K mg base (d + 1) ⟨"is_coupling", 3, false⟩ (call (d + 1) 17) :=
  ⟨fa, fd, ["first", "second", "value"], hm, F.kp, F.bindsN (fun _ _ _ _ _ _ us hl => match us, hl with | [_, _, _], _ => rfl), fn_ok (c := ck17) F sc17 rfl rfl rfl (by decide) IH hb ch17⟩
theorem sz17 {fa : Addr} {fd : FuncData} (F : FunD K "is_coupling" "is_coupling" (defArgs (Hd.top 23)) (defBody (Hd.top 23)) (defScope (Hd.top 23)) [] [] fa fd) (hm : mg "is_coupling" = some (.ref fa)) : FnHas0 (Yp K) P w K mg base 0 ⟨"is_coupling", 3, false⟩ (fun _ => .bad) :=
  FnHas0.zero (ps := ["first", "second", "value"]) hm F.kp (F.bindsN (fun _ _ _ _ _ _ us hl => match us, hl with | [_, _, _], _ => rfl))
def N18 : List Str := (["first", "second"] : List Str)
abbrev ck18 : Ck := ⟨N18, defScope (Hd.top 24), fun _ => true, fns, bn, false⟩
theorem ch18 : chSts ck18 b18 (defBody (Hd.top 24)) = true := by decide +kernel
theorem sc18 : FnScope N18 ["first", "second"] (defScope (Hd.top 24)) := ⟨rfl, rfl, rfl, by decide +kernel, rfl, by decide +kernel, by decide +kernel⟩
theorem st18 {d : Nat} {fa : Addr} {fd : FuncData} (F : FunD K "check_like_sums" "check_like_sums" (defArgs (Hd.top 24)) (defBody (Hd.top 24)) (defScope (Hd.top 24)) [] [] fa fd) (hm : mg "check_like_sums" = some (.ref fa)) (hb : ∀ x ∈ bn, mg x = none)
    (IH : ∀ (j : Nat) (i : FnI), fns[j]? = some i → FnHas0 (Yp K) P w K mg base d i (call d j)) : FnHas0 (Yp K) P w K mg base (d + 1) ⟨"check_like_sums", 2, false⟩ (call (d + 1) 18) :=
  ⟨fa, fd, ["first", "second"], hm, F.kp, F.bindsN (fun _ _ _ _ _ _ us hl => match us, hl with | [_, _], _ => rfl), fn_ok (c := ck18) F sc18 rfl rfl rfl (by decide) IH hb ch18⟩
theorem sz18 {fa : Addr} {fd : FuncData} (F : FunD K "check_like_sums" "check_like_sums" (defArgs (Hd.top 24)) (defBody (Hd.top 24)) (defScope (Hd.top 24)) [] [] fa fd) (hm : mg "check_like_sums" = some (.ref fa)) : FnHas0 (Yp K) P w K mg base 0 ⟨"check_like_sums", 2, false⟩ (fun _ => .bad) :=
  FnHas0.zero (ps := ["first", "second"]) hm F.kp (F.bindsN (fun _ _ _ _ _ _ us hl => match us, hl with | [_, _], _ => rfl))
def N19 : List Str := (["table", "columns", "k", "row"] : List Str)
abbrev ck19 : Ck := ⟨N19, defScope (Hd.top 25), fun _ => true, fns, bn, false⟩
theorem ch19 : chSts ck19 b19 (defBody (Hd.top 25)) = true := by decide +kernel
theorem sc19 : FnScope N19 ["table", "columns"] (defScope (Hd.top 25)) := ⟨rfl, rfl, rfl, by decide +kernel, rfl, by decide +kernel, by decide +kernel⟩
theorem st19 {d : Nat} {fa : Addr} {fd : FuncData} (F : FunD K "turned_table" "turned_table" (defArgs (Hd.top 25)) (defBody (Hd.top 25)) (defScope (Hd.top 25)) [] [] fa fd) (hm : mg "turned_table" = some (.ref fa)) (hb : ∀ x ∈ bn, mg x = none)
    (IH : ∀ (j : Nat) (i : FnI), fns[j]? = some i → FnHas0 (Yp K) P w K mg base d i (call d j)) : FnHas0 (Yp K) P w K mg base (d + 1) ⟨"turned_table", 2, false⟩ (call (d + 1) 19) :=
  ⟨fa, fd, ["table", "columns"], hm, F.kp, F.bindsN (fun _ _ _ _ _ _ us hl => match us, hl with | [_, _], _ => rfl), fn_ok (c := ck19) F sc19 rfl rfl rfl (by decide) IH hb ch19⟩
theorem sz19 {fa : Addr} {fd : FuncData} (F : FunD K "turned_table" "turned_table" (defArgs (Hd.top 25)) (defBody (Hd.top 25)) (defScope (Hd.top 25)) [] [] fa fd) (hm : mg "turned_table" = some (.ref fa)) : FnHas0 (Yp K) P w K mg base 0 ⟨"turned_table", 2, false⟩ (fun _ => .bad) :=
  FnHas0.zero (ps := ["table", "columns"]) hm F.kp (F.bindsN (fun _ _ _ _ _ _ us hl => match us, hl with | [_, _], _ => rfl))
def N20 : List Str := (["first", "second", "columns", "found", "row", "k", "j"] : List Str)
abbrev ck20 : Ck := ⟨N20, defScope (Hd.top 26), fun _ => true, fns, bn, false⟩
theorem ch20 : chSts ck20 b20 (defBody (Hd.top 26)) = true := by decide +kernel
theorem sc20 : FnScope N20 ["first", "second"] (defScope (Hd.top 26)) := ⟨rfl, rfl, rfl, by decide +kernel, rfl, by decide +kernel, by decide +kernel⟩
theorem st20 {d : Nat} {fa : Addr} {fd : FuncData} (F : FunD K "times_table" "times_table" (defArgs (Hd.top 26)) (defBody (Hd.top 26)) (defScope (Hd.top 26)) [] [] fa fd) (hm : mg "times_table" = some (.ref fa)) (hb : ∀ x ∈ bn, mg x = none)
    (IH : ∀ (j : Nat) (i : FnI), fns[j]? = some i → FnHas0 (Yp K) P w K mg base d i (call d j)) : FnHas0 (Yp K) P w K mg base (d + 1) ⟨"times_table", 2, false⟩ (call (d + 1) 20) :=
  ⟨fa, fd, ["first", "second"], hm, F.kp, F.bindsN (fun _ _ _ _ _ _ us hl => match us, hl with | [_, _], _ => rfl), fn_ok (c := ck20) F sc20 rfl rfl rfl (by decide) IH hb ch20⟩
theorem sz20 {fa : Addr} {fd : FuncData} (F : FunD K "times_table" "times_table" (defArgs (Hd.top 26)) (defBody (Hd.top 26)) (defScope (Hd.top 26)) [] [] fa fd) (hm : mg "times_table" = some (.ref fa)) : FnHas0 (Yp K) P w K mg base 0 ⟨"times_table", 2, false⟩ (fun _ => .bad) :=
  FnHas0.zero (ps := ["first", "second"]) hm F.kp (F.bindsN (fun _ _ _ _ _ _ us hl => match us, hl with | [_, _], _ => rfl))
def N21 : List Str := (["row", "table"] : List Str)
abbrev ck21 : Ck := ⟨N21, defScope (Hd.top 27), fun _ => true, fns, bn, false⟩
theorem ch21 : chSts ck21 b21 (defBody (Hd.top 27)) = true := by decide +kernel
theorem sc21 : FnScope N21 ["row", "table"] (defScope (Hd.top 27)) := ⟨rfl, rfl, rfl, by decide +kernel, rfl, by decide +kernel, by decide +kernel⟩
theorem st21 {d : Nat} {fa : Addr} {fd : FuncData} (F : FunD K "times_row" "times_row" (defArgs (Hd.top 27)) (defBody (Hd.top 27)) (defScope (Hd.top 27)) [] [] fa fd) (hm : mg "times_row" = some (.ref fa)) (hb : ∀ x ∈ bn, mg x = none)
    (IH : ∀ (j : Nat) (i : FnI), fns[j]? = some i → FnHas0 (Yp K) P w K mg base d i (call d j)) : FnHas0 (Yp K) P w K mg base (d + 1) ⟨"times_row", 2, false⟩ (call (d + 1) 21) :=
  ⟨fa, fd, ["row", "table"], hm, F.kp, F.bindsN (fun _ _ _ _ _ _ us hl => match us, hl with | [_, _], _ => rfl), fn_ok (c := ck21) F sc21 rfl rfl rfl (by decide) IH hb ch21⟩
theorem sz21 {fa : Addr} {fd : FuncData} (F : FunD K "times_row" "times_row" (defArgs (Hd.top 27)) (defBody (Hd.top 27)) (defScope (Hd.top 27)) [] [] fa fd) (hm : mg "times_row" = some (.ref fa)) : FnHas0 (Yp K) P w K mg base 0 ⟨"times_row", 2, false⟩ (fun _ => .bad) :=
  FnHas0.zero (ps := ["row", "table"]) hm F.kp (F.bindsN (fun _ _ _ _ _ _ us hl => match us, hl with | [_, _], _ => rfl))
def N22 : List Str := (["first", "second", "k"] : List Str)
abbrev ck22 : Ck := ⟨N22, defScope (Hd.top 28), fun _ => true, fns, bn, false⟩
theorem ch22 : chSts ck22 b22 (defBody (Hd.top 28)) = true := by decide +kernel
theorem sc22 : FnScope N22 ["first", "second"] (defScope (Hd.top 28)) := ⟨rfl, rfl, rfl, by decide +kernel, rfl, by decide +kernel, by decide +kernel⟩
theorem st22 {d : Nat} {fa : Addr} {fd : FuncData} (F : FunD K "dot_f" "dot_f" (defArgs (Hd.top 28)) (defBody (Hd.top 28)) (defScope (Hd.top 28)) [] [] fa fd) (hm : mg "dot_f" = some (.ref fa)) (hb : ∀ x ∈ bn, mg x = none)
    (IH : ∀ (j : Nat) (i : FnI), fns[j]? = some i → FnHas0 (Yp K) P w K mg base d i (call d j)) : FnHas0 (Yp K) P w K mg base (d + 1) ⟨"dot_f", 2, false⟩ (call (d + 1) 22) :=
  ⟨fa, fd, ["first", "second"], hm, F.kp, F.bindsN (fun _ _ _ _ _ _ us hl => match us, hl with | [_, _], _ => rfl), fn_ok (c := ck22) F sc22 rfl rfl rfl (by decide) IH hb ch22⟩
theorem sz22 {fa : Addr} {fd : FuncData} (F : FunD K "dot_f" "dot_f" (defArgs (Hd.top 28)) (defBody (Hd.top 28)) (defScope (Hd.top 28)) [] [] fa fd) (hm : mg "dot_f" = some (.ref fa)) : FnHas0 (Yp K) P w K mg base 0 ⟨"dot_f", 2, false⟩ (fun _ => .bad) :=
  FnHas0.zero (ps := ["first", "second"]) hm F.kp (F.bindsN (fun _ _ _ _ _ _ us hl => match us, hl with | [_, _], _ => rfl))
def N23 : List Str := (["first", "second", "k"] : List Str)
abbrev ck23 : Ck := ⟨N23, defScope (Hd.top 29), fun _ => true, fns, bn, false⟩
theorem ch23 : chSts ck23 b23 (defBody (Hd.top 29)) = true := by decide +kernel
theorem sc23 : FnScope N23 ["first", "second"] (defScope (Hd.top 29)) := ⟨rfl, rfl, rfl, by decide +kernel, rfl, by decide +kernel, by decide +kernel⟩
theorem st23 {d : Nat} {fa : Addr} {fd : FuncData} (F : FunD K "dot_table" "dot_table" (defArgs (Hd.top 29)) (defBody (Hd.top 29)) (defScope (Hd.top 29)) [] [] fa fd) (hm : mg "dot_table" = some (.ref fa)) (hb : ∀ x ∈ bn, mg x = none)
    (IH : ∀ (j : Nat) (i : FnI), fns[j]? = some i → FnHas0 (Yp K) P w K mg base d i (call d j)) : FnHas0 (Yp K) P w K mg base (d + 1) ⟨"dot_table", 2, false⟩ (call (d + 1) 23) :=
  ⟨fa, fd, ["first", "second"], hm, F.kp, F.bindsN (fun _ _ _ _ _ _ us hl => match us, hl with | [_, _], _ => rfl), fn_ok (c := ck23) F sc23 rfl rfl rfl (by decide) IH hb ch23⟩
theorem sz23 {fa : Addr} {fd : FuncData} (F : FunD K "dot_table" "dot_table" (defArgs (Hd.top 29)) (defBody (Hd.top 29)) (defScope (Hd.top 29)) [] [] fa fd) (hm : mg "dot_table" = some (.ref fa)) : FnHas0 (Yp K) P w K mg base 0 ⟨"dot_table", 2, false⟩ (fun _ => .bad) :=
  FnHas0.zero (ps := ["first", "second"]) hm F.kp (F.bindsN (fun _ _ _ _ _ _ us hl => match us, hl with | [_, _], _ => rfl))
def N24 : List Str := (["many", "j", "k"] : List Str)
abbrev ck24 : Ck := ⟨N24, defScope (Hd.top 30), fun _ => true, fns, bn, false⟩
theorem ch24 : chSts ck24 b24 (defBody (Hd.top 30)) = true := by decide +kernel
theorem sc24 : FnScope N24 ["many"] (defScope (Hd.top 30)) := ⟨rfl, rfl, rfl, by decide +kernel, rfl, by decide +kernel, by decide +kernel⟩
theorem st24 {d : Nat} {fa : Addr} {fd : FuncData} (F : FunD K "plain_kernel" "plain_kernel" (defArgs (Hd.top 30)) (defBody (Hd.top 30)) (defScope (Hd.top 30)) [] [] fa fd) (hm : mg "plain_kernel" = some (.ref fa)) (hb : ∀ x ∈ bn, mg x = none)
    (IH : ∀ (j : Nat) (i : FnI), fns[j]? = some i → FnHas0 (Yp K) P w K mg base d i (call d j)) : FnHas0 (Yp K) P w K mg base (d + 1) ⟨"plain_kernel", 1, false⟩ (call (d + 1) 24) :=
  ⟨fa, fd, ["many"], hm, F.kp, F.bindsN (fun _ _ _ _ _ _ us hl => match us, hl with | [_], _ => rfl), fn_ok (c := ck24) F sc24 rfl rfl rfl (by decide) IH hb ch24⟩
theorem sz24 {fa : Addr} {fd : FuncData} (F : FunD K "plain_kernel" "plain_kernel" (defArgs (Hd.top 30)) (defBody (Hd.top 30)) (defScope (Hd.top 30)) [] [] fa fd) (hm : mg "plain_kernel" = some (.ref fa)) : FnHas0 (Yp K) P w K mg base 0 ⟨"plain_kernel", 1, false⟩ (fun _ => .bad) :=
  FnHas0.zero (ps := ["many"]) hm F.kp (F.bindsN (fun _ _ _ _ _ _ us hl => match us, hl with | [_], _ => rfl))
def N25 : List Str := (["many", "_"] : List Str)
abbrev ck25 : Ck := ⟨N25, defScope (Hd.top 31), fun _ => true, fns, bn, false⟩
theorem ch25 : chSts ck25 b25 (defBody (Hd.top 31)) = true := by decide +kernel
theorem sc25 : FnScope N25 ["many"] (defScope (Hd.top 31)) := ⟨rfl, rfl, rfl, by decide +kernel, rfl, by decide +kernel, by decide +kernel⟩
theorem st25 {d : Nat} {fa : Addr} {fd : FuncData} (F : FunD K "even_kernel" "even_kernel" (defArgs (Hd.top 31)) (defBody (Hd.top 31)) (defScope (Hd.top 31)) [] [] fa fd) (hm : mg "even_kernel" = some (.ref fa)) (hb : ∀ x ∈ bn, mg x = none)
    (IH : ∀ (j : Nat) (i : FnI), fns[j]? = some i → FnHas0 (Yp K) P w K mg base d i (call d j)) : FnHas0 (Yp K) P w K mg base (d + 1) ⟨"even_kernel", 1, false⟩ (call (d + 1) 25) :=
  ⟨fa, fd, ["many"], hm, F.kp, F.bindsN (fun _ _ _ _ _ _ us hl => match us, hl with | [_], _ => rfl), fn_ok (c := ck25) F sc25 rfl rfl rfl (by decide) IH hb ch25⟩
theorem sz25 {fa : Addr} {fd : FuncData} (F : FunD K "even_kernel" "even_kernel" (defArgs (Hd.top 31)) (defBody (Hd.top 31)) (defScope (Hd.top 31)) [] [] fa fd) (hm : mg "even_kernel" = some (.ref fa)) : FnHas0 (Yp K) P w K mg base 0 ⟨"even_kernel", 1, false⟩ (fun _ => .bad) :=
  FnHas0.zero (ps := ["many"]) hm F.kp (F.bindsN (fun _ _ _ _ _ _ us hl => match us, hl with | [_], _ => rfl))
def N26 : List Str := (["kernel", "times", "found", "_"] : List Str)
abbrev ck26 : Ck := ⟨N26, defScope (Hd.top 32), fun _ => true, fns, bn, false⟩
theorem ch26 : chSts ck26 b26 (defBody (Hd.top 32)) = true := by decide +kernel
theorem sc26 : FnScope N26 ["kernel", "times"] (defScope (Hd.top 32)) := ⟨rfl, rfl, rfl, by decide +kernel, rfl, by decide +kernel, by decide +kernel⟩
theorem st26 {d : Nat} {fa : Addr} {fd : FuncData} (F : FunD K "kernel_power" "kernel_power" (defArgs (Hd.top 32)) (defBody (Hd.top 32)) (defScope (Hd.top 32)) [] [] fa fd) (hm : mg "kernel_power" = some (.ref fa)) (hb : ∀ x ∈ bn, mg x = none)
    (IH : ∀ (j : Nat) (i : FnI), fns[j]? = some i → FnHas0 (Yp K) P w K mg base d i (call d j)) : FnHas0 (Yp K) P w K mg base (d + 1) ⟨"kernel_power", 2, false⟩ (call (d + 1) 26) :=
  ⟨fa, fd, ["kernel", "times"], hm, F.kp, F.bindsN (fun _ _ _ _ _ _ us hl => match us, hl with | [_, _], _ => rfl), fn_ok (c := ck26) F sc26 rfl rfl rfl (by decide) IH hb ch26⟩
theorem sz26 {fa : Addr} {fd : FuncData} (F : FunD K "kernel_power" "kernel_power" (defArgs (Hd.top 32)) (defBody (Hd.top 32)) (defScope (Hd.top 32)) [] [] fa fd) (hm : mg "kernel_power" = some (.ref fa)) : FnHas0 (Yp K) P w K mg base 0 ⟨"kernel_power", 2, false⟩ (fun _ => .bad) :=
  FnHas0.zero (ps := ["kernel", "times"]) hm F.kp (F.bindsN (fun _ _ _ _ _ _ us hl => match us, hl with | [_, _], _ => rfl))
def N27 : List Str := (["first", "second", "a", "b"] : List Str)
abbrev ck27 : Ck := ⟨N27, defScope (Hd.top 33), fun _ => true, fns, bn, false⟩
theorem ch27 : chSts ck27 b27 (defBody (Hd.top 33)) = true := by decide +kernel
theorem sc27 : FnScope N27 ["first", "second"] (defScope (Hd.top 33)) := ⟨rfl, rfl, rfl, by decide +kernel, rfl, by decide +kernel, by decide +kernel⟩
theorem st27 {d : Nat} {fa : Addr} {fd : FuncData} (F : FunD K "apart_coupling" "apart_coupling" (defArgs (Hd.top 33)) (defBody (Hd.top 33)) (defScope (Hd.top 33)) [] [] fa fd) (hm : mg "apart_coupling" = some (.ref fa)) (hb : ∀ x ∈ bn, mg x = none)
    (IH : ∀ (j : Nat) (i : FnI), fns[j]? = some i → FnHas0 (Yp K) P w K mg base d i (call d j)) : FnHas0 (Yp K) P w K mg base (d + 1) ⟨"apart_coupling", 2, false⟩ (call (d + 1) 27) :=
  ⟨fa, fd, ["first", "second"], hm, F.kp, F.bindsN (fun _ _ _ _ _ _ us hl => match us, hl with | [_, _], _ => rfl), fn_ok (c := ck27) F sc27 rfl rfl rfl (by decide) IH hb ch27⟩
theorem sz27 {fa : Addr} {fd : FuncData} (F : FunD K "apart_coupling" "apart_coupling" (defArgs (Hd.top 33)) (defBody (Hd.top 33)) (defScope (Hd.top 33)) [] [] fa fd) (hm : mg "apart_coupling" = some (.ref fa)) : FnHas0 (Yp K) P w K mg base 0 ⟨"apart_coupling", 2, false⟩ (fun _ => .bad) :=
  FnHas0.zero (ps := ["first", "second"]) hm F.kp (F.bindsN (fun _ _ _ _ _ _ us hl => match us, hl with | [_, _], _ => rfl))
def N28 : List Str := (["first", "second", "found", "left", "right", "i", "j", "rest", "part", "_", "row"] : List Str)
abbrev ck28 : Ck := ⟨N28, defScope (Hd.top 34), fun _ => true, fns, bn, false⟩
theorem ch28 : chSts ck28 b28 (defBody (Hd.top 34)) = true := by decide +kernel
theorem sc28 : FnScope N28 ["first", "second"] (defScope (Hd.top 34)) := ⟨rfl, rfl, rfl, by decide +kernel, rfl, by decide +kernel, by decide +kernel⟩
theorem st28 {d : Nat} {fa : Addr} {fd : FuncData} (F : FunD K "corner_coupling" "corner_coupling" (defArgs (Hd.top 34)) (defBody (Hd.top 34)) (defScope (Hd.top 34)) [] [] fa fd) (hm : mg "corner_coupling" = some (.ref fa)) (hb : ∀ x ∈ bn, mg x = none)
    (IH : ∀ (j : Nat) (i : FnI), fns[j]? = some i → FnHas0 (Yp K) P w K mg base d i (call d j)) : FnHas0 (Yp K) P w K mg base (d + 1) ⟨"corner_coupling", 2, false⟩ (call (d + 1) 28) :=
  ⟨fa, fd, ["first", "second"], hm, F.kp, F.bindsN (fun _ _ _ _ _ _ us hl => match us, hl with | [_, _], _ => rfl), fn_ok (c := ck28) F sc28 rfl rfl rfl (by decide) IH hb ch28⟩
theorem sz28 {fa : Addr} {fd : FuncData} (F : FunD K "corner_coupling" "corner_coupling" (defArgs (Hd.top 34)) (defBody (Hd.top 34)) (defScope (Hd.top 34)) [] [] fa fd) (hm : mg "corner_coupling" = some (.ref fa)) : FnHas0 (Yp K) P w K mg base 0 ⟨"corner_coupling", 2, false⟩ (fun _ => .bad) :=
  FnHas0.zero (ps := ["first", "second"]) hm F.kp (F.bindsN (fun _ _ _ _ _ _ us hl => match us, hl with | [_, _], _ => rfl))
def N29 : List Str := (["coupling", "found", "row", "total", "k", "one"] : List Str)
abbrev ck29 : Ck := ⟨N29, defScope (Hd.top 35), fun _ => true, fns, bn, false⟩
theorem ch29 : chSts ck29 b29 (defBody (Hd.top 35)) = true := by decide +kernel
theorem sc29 : FnScope N29 ["coupling"] (defScope (Hd.top 35)) := ⟨rfl, rfl, rfl, by decide +kernel, rfl, by decide +kernel, by decide +kernel⟩
theorem st29 {d : Nat} {fa : Addr} {fd : FuncData} (F : FunD K "kernel_of" "kernel_of" (defArgs (Hd.top 35)) (defBody (Hd.top 35)) (defScope (Hd.top 35)) [] [] fa fd) (hm : mg "kernel_of" = some (.ref fa)) (hb : ∀ x ∈ bn, mg x = none)
    (IH : ∀ (j : Nat) (i : FnI), fns[j]? = some i → FnHas0 (Yp K) P w K mg base d i (call d j)) : FnHas0 (Yp K) P w K mg base (d + 1) ⟨"kernel_of", 1, false⟩ (call (d + 1) 29) :=
  ⟨fa, fd, ["coupling"], hm, F.kp, F.bindsN (fun _ _ _ _ _ _ us hl => match us, hl with | [_], _ => rfl), fn_ok (c := ck29) F sc29 rfl rfl rfl (by decide) IH hb ch29⟩
theorem sz29 {fa : Addr} {fd : FuncData} (F : FunD K "kernel_of" "kernel_of" (defArgs (Hd.top 35)) (defBody (Hd.top 35)) (defScope (Hd.top 35)) [] [] fa fd) (hm : mg "kernel_of" = some (.ref fa)) : FnHas0 (Yp K) P w K mg base 0 ⟨"kernel_of", 1, false⟩ (fun _ => .bad) :=
  FnHas0.zero (ps := ["coupling"]) hm F.kp (F.bindsN (fun _ _ _ _ _ _ us hl => match us, hl with | [_], _ => rfl))
def N30 : List Str := (["first", "kernel", "k", "one"] : List Str)
abbrev ck30 : Ck := ⟨N30, defScope (Hd.top 36), fun _ => true, fns, bn, false⟩
theorem ch30 : chSts ck30 b30 (defBody (Hd.top 36)) = true := by decide +kernel
theorem sc30 : FnScope N30 ["first", "kernel"] (defScope (Hd.top 36)) := ⟨rfl, rfl, rfl, by decide +kernel, rfl, by decide +kernel, by decide +kernel⟩
theorem st30 {d : Nat} {fa : Addr} {fd : FuncData} (F : FunD K "coupling_of" "coupling_of" (defArgs (Hd.top 36)) (defBody (Hd.top 36)) (defScope (Hd.top 36)) [] [] fa fd) (hm : mg "coupling_of" = some (.ref fa)) (hb : ∀ x ∈ bn, mg x = none)
    (IH : ∀ (j : Nat) (i : FnI), fns[j]? = some i → FnHas0 (Yp K) P w K mg base d i (call d j)) : FnHas0 (Yp K) P w K mg base (d + 1) ⟨"coupling_of", 2, false⟩ (call (d + 1) 30) :=
  ⟨fa, fd, ["first", "kernel"], hm, F.kp, F.bindsN (fun _ _ _ _ _ _ us hl => match us, hl with | [_, _], _ => rfl), fn_ok (c := ck30) F sc30 rfl rfl rfl (by decide) IH hb ch30⟩
theorem sz30 {fa : Addr} {fd : FuncData} (F : FunD K "coupling_of" "coupling_of" (defArgs (Hd.top 36)) (defBody (Hd.top 36)) (defScope (Hd.top 36)) [] [] fa fd) (hm : mg "coupling_of" = some (.ref fa)) : FnHas0 (Yp K) P w K mg base 0 ⟨"coupling_of", 2, false⟩ (fun _ => .bad) :=
  FnHas0.zero (ps := ["first", "kernel"]) hm F.kp (F.bindsN (fun _ _ _ _ _ _ us hl => match us, hl with | [_, _], _ => rfl))
def N31 : List Str := (["table", "i", "j"] : List Str)
abbrev ck31 : Ck := ⟨N31, defScope (Hd.top 37), fun _ => true, fns, bn, false⟩
theorem ch31 : chSts ck31 b31 (defBody (Hd.top 37)) = true := by decide +kernel
theorem sc31 : FnScope N31 ["table"] (defScope (Hd.top 37)) := ⟨rfl, rfl, rfl, by decide +kernel, rfl, by decide +kernel, by decide +kernel⟩
theorem st31 {d : Nat} {fa : Addr} {fd : FuncData} (F : FunD K "places_used" "places_used" (defArgs (Hd.top 37)) (defBody (Hd.top 37)) (defScope (Hd.top 37)) [] [] fa fd) (hm : mg "places_used" = some (.ref fa)) (hb : ∀ x ∈ bn, mg x = none)
    (IH : ∀ (j : Nat) (i : FnI), fns[j]? = some i → FnHas0 (Yp K) P w K mg base d i (call d j)) : FnHas0 (Yp K) P w K mg base (d + 1) ⟨"places_used", 1, false⟩ (call (d + 1) 31) :=
  ⟨fa, fd, ["table"], hm, F.kp, F.bindsN (fun _ _ _ _ _ _ us hl => match us, hl with | [_], _ => rfl), fn_ok (c := ck31) F sc31 rfl rfl rfl (by decide) IH hb ch31⟩
theorem sz31 {fa : Addr} {fd : FuncData} (F : FunD K "places_used" "places_used" (defArgs (Hd.top 37)) (defBody (Hd.top 37)) (defScope (Hd.top 37)) [] [] fa fd) (hm : mg "places_used" = some (.ref fa)) : FnHas0 (Yp K) P w K mg base 0 ⟨"places_used", 1, false⟩ (fun _ => .bad) :=
  FnHas0.zero (ps := ["table"]) hm F.kp (F.bindsN (fun _ _ _ _ _ _ us hl => match us, hl with | [_], _ => rfl))
def N32 : List Str := (["first", "second", "one", "other", "a", "b"] : List Str)
abbrev ck32 : Ck := ⟨N32, defScope (Hd.top 38), fun _ => true, fns, bn, false⟩
theorem ch32 : chSts ck32 b32 (defBody (Hd.top 38)) = true := by decide +kernel
theorem sc32 : FnScope N32 ["first", "second"] (defScope (Hd.top 38)) := ⟨rfl, rfl, rfl, by decide +kernel, rfl, by decide +kernel, by decide +kernel⟩
theorem st32 {d : Nat} {fa : Addr} {fd : FuncData} (F : FunD K "plus_table" "plus_table" (defArgs (Hd.top 38)) (defBody (Hd.top 38)) (defScope (Hd.top 38)) [] [] fa fd) (hm : mg "plus_table" = some (.ref fa)) (hb : ∀ x ∈ bn, mg x = none)
    (IH : ∀ (j : Nat) (i : FnI), fns[j]? = some i → FnHas0 (Yp K) P w K mg base d i (call d j)) : FnHas0 (Yp K) P w K mg base (d + 1) ⟨"plus_table", 2, false⟩ (call (d + 1) 32) :=
  ⟨fa, fd, ["first", "second"], hm, F.kp, F.bindsN (fun _ _ _ _ _ _ us hl => match us, hl with | [_, _], _ => rfl), fn_ok (c := ck32) F sc32 rfl rfl rfl (by decide) IH hb ch32⟩
theorem sz32 {fa : Addr} {fd : FuncData} (F : FunD K "plus_table" "plus_table" (defArgs (Hd.top 38)) (defBody (Hd.top 38)) (defScope (Hd.top 38)) [] [] fa fd) (hm : mg "plus_table" = some (.ref fa)) : FnHas0 (Yp K) P w K mg base 0 ⟨"plus_table", 2, false⟩ (fun _ => .bad) :=
  FnHas0.zero (ps := ["first", "second"]) hm F.kp (F.bindsN (fun _ _ _ _ _ _ us hl => match us, hl with | [_, _], _ => rfl))
def N33 : List Str := (["table", "scale", "row", "one"] : List Str)
abbrev ck33 : Ck := ⟨N33, defScope (Hd.top 39), fun _ => true, fns, bn, false⟩
theorem ch33 : chSts ck33 b33 (defBody (Hd.top 39)) = true := by decide +kernel
theorem sc33 : FnScope N33 ["table", "scale"] (defScope (Hd.top 39)) := ⟨rfl, rfl, rfl, by decide +kernel, rfl, by decide +kernel, by decide +kernel⟩
theorem st33 {d : Nat} {fa : Addr} {fd : FuncData} (F : FunD K "scaled_table" "scaled_table" (defArgs (Hd.top 39)) (defBody (Hd.top 39)) (defScope (Hd.top 39)) [] [] fa fd) (hm : mg "scaled_table" = some (.ref fa)) (hb : ∀ x ∈ bn, mg x = none)
    (IH : ∀ (j : Nat) (i : FnI), fns[j]? = some i → FnHas0 (Yp K) P w K mg base d i (call d j)) : FnHas0 (Yp K) P w K mg base (d + 1) ⟨"scaled_table", 2, false⟩ (call (d + 1) 33) :=
  ⟨fa, fd, ["table", "scale"], hm, F.kp, F.bindsN (fun _ _ _ _ _ _ us hl => match us, hl with | [_, _], _ => rfl), fn_ok (c := ck33) F sc33 rfl rfl rfl (by decide) IH hb ch33⟩
theorem sz33 {fa : Addr} {fd : FuncData} (F : FunD K "scaled_table" "scaled_table" (defArgs (Hd.top 39)) (defBody (Hd.top 39)) (defScope (Hd.top 39)) [] [] fa fd) (hm : mg "scaled_table" = some (.ref fa)) : FnHas0 (Yp K) P w K mg base 0 ⟨"scaled_table", 2, false⟩ (fun _ => .bad) :=
  FnHas0.zero (ps := ["table", "scale"]) hm F.kp (F.bindsN (fun _ _ _ _ _ _ us hl => match us, hl with | [_, _], _ => rfl))
def N34 : List Str := (["tape", "many", "rest", "cell"] : List Str)
abbrev ck34 : Ck := ⟨N34, defScope (Hd.top 41), fun _ => true, fns, bn, true⟩
theorem ch34 : chSts ck34 b34 (defBody (Hd.top 41)) = true := by decide +kernel
theorem sc34 : FnScope N34 ["tape", "many"] (defScope (Hd.top 41)) := ⟨rfl, rfl, rfl, by decide +kernel, rfl, by decide +kernel, by decide +kernel⟩
theorem st34 {d : Nat} {fa : Addr} {fd : FuncData} (F : FunD K "_law_next" "_law_next" (defArgs (Hd.top 41)) (defBody (Hd.top 41)) (defScope (Hd.top 41)) [] [] fa fd) (hm : mg "_law_next" = some (.ref fa)) (hb : ∀ x ∈ bn, mg x = none)
    (IH : ∀ (j : Nat) (i : FnI), fns[j]? = some i → FnHas0 (Yp K) P w K mg base d i (call d j)) : FnHas0 (Yp K) P w K mg base (d + 1) ⟨"_law_next", 2, true⟩ (call (d + 1) 34) :=
  ⟨fa, fd, ["tape", "many"], hm, F.kp, F.bindsN (fun _ _ _ _ _ _ us hl => match us, hl with | [_, _], _ => rfl), fn_ok (c := ck34) F sc34 rfl rfl rfl (by decide) IH hb ch34⟩
theorem sz34 {fa : Addr} {fd : FuncData} (F : FunD K "_law_next" "_law_next" (defArgs (Hd.top 41)) (defBody (Hd.top 41)) (defScope (Hd.top 41)) [] [] fa fd) (hm : mg "_law_next" = some (.ref fa)) : FnHas0 (Yp K) P w K mg base 0 ⟨"_law_next", 2, true⟩ (fun _ => .bad) :=
  FnHas0.zero (ps := ["tape", "many"]) hm F.kp (F.bindsN (fun _ _ _ _ _ _ us hl => match us, hl with | [_, _], _ => rfl))
def N35 : List Str := (["told", "due", "k"] : List Str)
abbrev ck35 : Ck := ⟨N35, defScope (Hd.top 42), fun _ => true, fns, bn, false⟩
theorem ch35 : chSts ck35 b35 (defBody (Hd.top 42)) = true := by decide +kernel
theorem sc35 : FnScope N35 ["told", "due"] (defScope (Hd.top 42)) := ⟨rfl, rfl, rfl, by decide +kernel, rfl, by decide +kernel, by decide +kernel⟩
theorem st35 {d : Nat} {fa : Addr} {fd : FuncData} (F : FunD K "_law_same" "_law_same" (defArgs (Hd.top 42)) (defBody (Hd.top 42)) (defScope (Hd.top 42)) [] [] fa fd) (hm : mg "_law_same" = some (.ref fa)) (hb : ∀ x ∈ bn, mg x = none)
    (IH : ∀ (j : Nat) (i : FnI), fns[j]? = some i → FnHas0 (Yp K) P w K mg base d i (call d j)) : FnHas0 (Yp K) P w K mg base (d + 1) ⟨"_law_same", 2, false⟩ (call (d + 1) 35) :=
  ⟨fa, fd, ["told", "due"], hm, F.kp, F.bindsN (fun _ _ _ _ _ _ us hl => match us, hl with | [_, _], _ => rfl), fn_ok (c := ck35) F sc35 rfl rfl rfl (by decide) IH hb ch35⟩
theorem sz35 {fa : Addr} {fd : FuncData} (F : FunD K "_law_same" "_law_same" (defArgs (Hd.top 42)) (defBody (Hd.top 42)) (defScope (Hd.top 42)) [] [] fa fd) (hm : mg "_law_same" = some (.ref fa)) : FnHas0 (Yp K) P w K mg base 0 ⟨"_law_same", 2, false⟩ (fun _ => .bad) :=
  FnHas0.zero (ps := ["told", "due"]) hm F.kp (F.bindsN (fun _ _ _ _ _ _ us hl => match us, hl with | [_, _], _ => rfl))
def N36 : List Str := (["over", "under", "size", "rest"] : List Str)
abbrev ck36 : Ck := ⟨N36, defScope (Hd.top 43), fun _ => true, fns, bn, false⟩
theorem ch36 : chSts ck36 b36 (defBody (Hd.top 43)) = true := by decide +kernel
theorem sc36 : FnScope N36 ["over", "under"] (defScope (Hd.top 43)) := ⟨rfl, rfl, rfl, by decide +kernel, rfl, by decide +kernel, by decide +kernel⟩
theorem st36 {d : Nat} {fa : Addr} {fd : FuncData} (F : FunD K "_law_least" "_law_least" (defArgs (Hd.top 43)) (defBody (Hd.top 43)) (defScope (Hd.top 43)) [] [] fa fd) (hm : mg "_law_least" = some (.ref fa)) (hb : ∀ x ∈ bn, mg x = none)
    (IH : ∀ (j : Nat) (i : FnI), fns[j]? = some i → FnHas0 (Yp K) P w K mg base d i (call d j)) : FnHas0 (Yp K) P w K mg base (d + 1) ⟨"_law_least", 2, false⟩ (call (d + 1) 36) :=
  ⟨fa, fd, ["over", "under"], hm, F.kp, F.bindsN (fun _ _ _ _ _ _ us hl => match us, hl with | [_, _], _ => rfl), fn_ok (c := ck36) F sc36 rfl rfl rfl (by decide) IH hb ch36⟩
theorem sz36 {fa : Addr} {fd : FuncData} (F : FunD K "_law_least" "_law_least" (defArgs (Hd.top 43)) (defBody (Hd.top 43)) (defScope (Hd.top 43)) [] [] fa fd) (hm : mg "_law_least" = some (.ref fa)) : FnHas0 (Yp K) P w K mg base 0 ⟨"_law_least", 2, false⟩ (fun _ => .bad) :=
  FnHas0.zero (ps := ["over", "under"]) hm F.kp (F.bindsN (fun _ _ _ _ _ _ us hl => match us, hl with | [_, _], _ => rfl))
def N37 : List Str := (["one", "other"] : List Str)
abbrev ck37 : Ck := ⟨N37, defScope (Hd.top 44), fun _ => true, fns, bn, false⟩
theorem ch37 : chSts ck37 b37 (defBody (Hd.top 44)) = true := by decide +kernel
theorem sc37 : FnScope N37 ["one", "other"] (defScope (Hd.top 44)) := ⟨rfl, rfl, rfl, by decide +kernel, rfl, by decide +kernel, by decide +kernel⟩
theorem st37 {d : Nat} {fa : Addr} {fd : FuncData} (F : FunD K "_law_plus" "_law_plus" (defArgs (Hd.top 44)) (defBody (Hd.top 44)) (defScope (Hd.top 44)) [] [] fa fd) (hm : mg "_law_plus" = some (.ref fa)) (hb : ∀ x ∈ bn, mg x = none)
    (IH : ∀ (j : Nat) (i : FnI), fns[j]? = some i → FnHas0 (Yp K) P w K mg base d i (call d j)) : FnHas0 (Yp K) P w K mg base (d + 1) ⟨"_law_plus", 2, false⟩ (call (d + 1) 37) :=
  ⟨fa, fd, ["one", "other"], hm, F.kp, F.bindsN (fun _ _ _ _ _ _ us hl => match us, hl with | [_, _], _ => rfl), fn_ok (c := ck37) F sc37 rfl rfl rfl (by decide) IH hb ch37⟩
theorem sz37 {fa : Addr} {fd : FuncData} (F : FunD K "_law_plus" "_law_plus" (defArgs (Hd.top 44)) (defBody (Hd.top 44)) (defScope (Hd.top 44)) [] [] fa fd) (hm : mg "_law_plus" = some (.ref fa)) : FnHas0 (Yp K) P w K mg base 0 ⟨"_law_plus", 2, false⟩ (fun _ => .bad) :=
  FnHas0.zero (ps := ["one", "other"]) hm F.kp (F.bindsN (fun _ _ _ _ _ _ us hl => match us, hl with | [_, _], _ => rfl))
def N38 : List Str := (["one", "other"] : List Str)
abbrev ck38 : Ck := ⟨N38, defScope (Hd.top 45), fun _ => true, fns, bn, false⟩
theorem ch38 : chSts ck38 b38 (defBody (Hd.top 45)) = true := by decide +kernel
theorem sc38 : FnScope N38 ["one", "other"] (defScope (Hd.top 45)) := ⟨rfl, rfl, rfl, by decide +kernel, rfl, by decide +kernel, by decide +kernel⟩
theorem st38 {d : Nat} {fa : Addr} {fd : FuncData} (F : FunD K "_law_less" "_law_less" (defArgs (Hd.top 45)) (defBody (Hd.top 45)) (defScope (Hd.top 45)) [] [] fa fd) (hm : mg "_law_less" = some (.ref fa)) (hb : ∀ x ∈ bn, mg x = none)
    (IH : ∀ (j : Nat) (i : FnI), fns[j]? = some i → FnHas0 (Yp K) P w K mg base d i (call d j)) : FnHas0 (Yp K) P w K mg base (d + 1) ⟨"_law_less", 2, false⟩ (call (d + 1) 38) :=
  ⟨fa, fd, ["one", "other"], hm, F.kp, F.bindsN (fun _ _ _ _ _ _ us hl => match us, hl with | [_, _], _ => rfl), fn_ok (c := ck38) F sc38 rfl rfl rfl (by decide) IH hb ch38⟩
theorem sz38 {fa : Addr} {fd : FuncData} (F : FunD K "_law_less" "_law_less" (defArgs (Hd.top 45)) (defBody (Hd.top 45)) (defScope (Hd.top 45)) [] [] fa fd) (hm : mg "_law_less" = some (.ref fa)) : FnHas0 (Yp K) P w K mg base 0 ⟨"_law_less", 2, false⟩ (fun _ => .bad) :=
  FnHas0.zero (ps := ["one", "other"]) hm F.kp (F.bindsN (fun _ _ _ _ _ _ us hl => match us, hl with | [_, _], _ => rfl))
def N39 : List Str := (["one", "other"] : List Str)
abbrev ck39 : Ck := ⟨N39, defScope (Hd.top 46), fun _ => true, fns, bn, false⟩
theorem ch39 : chSts ck39 b39 (defBody (Hd.top 46)) = true := by decide +kernel
theorem sc39 : FnScope N39 ["one", "other"] (defScope (Hd.top 46)) := ⟨rfl, rfl, rfl, by decide +kernel, rfl, by decide +kernel, by decide +kernel⟩
theorem st39 {d : Nat} {fa : Addr} {fd : FuncData} (F : FunD K "_law_minus" "_law_minus" (defArgs (Hd.top 46)) (defBody (Hd.top 46)) (defScope (Hd.top 46)) [] [] fa fd) (hm : mg "_law_minus" = some (.ref fa)) (hb : ∀ x ∈ bn, mg x = none)
    (IH : ∀ (j : Nat) (i : FnI), fns[j]? = some i → FnHas0 (Yp K) P w K mg base d i (call d j)) : FnHas0 (Yp K) P w K mg base (d + 1) ⟨"_law_minus", 2, false⟩ (call (d + 1) 39) :=
  ⟨fa, fd, ["one", "other"], hm, F.kp, F.bindsN (fun _ _ _ _ _ _ us hl => match us, hl with | [_, _], _ => rfl), fn_ok (c := ck39) F sc39 rfl rfl rfl (by decide) IH hb ch39⟩
theorem sz39 {fa : Addr} {fd : FuncData} (F : FunD K "_law_minus" "_law_minus" (defArgs (Hd.top 46)) (defBody (Hd.top 46)) (defScope (Hd.top 46)) [] [] fa fd) (hm : mg "_law_minus" = some (.ref fa)) : FnHas0 (Yp K) P w K mg base 0 ⟨"_law_minus", 2, false⟩ (fun _ => .bad) :=
  FnHas0.zero (ps := ["one", "other"]) hm F.kp (F.bindsN (fun _ _ _ _ _ _ us hl => match us, hl with | [_, _], _ => rfl))
def N40 : List Str := (["one", "other"] : List Str)
abbrev ck40 : Ck := ⟨N40, defScope (Hd.top 47), fun _ => true, fns, bn, false⟩
theorem ch40 : chSts ck40 b40 (defBody (Hd.top 47)) = true := by decide +kernel
theorem sc40 : FnScope N40 ["one", "other"] (defScope (Hd.top 47)) := ⟨rfl, rfl, rfl, by decide +kernel, rfl, by decide +kernel, by decide +kernel⟩
theorem st40 {d : Nat} {fa : Addr} {fd : FuncData} (F : FunD K "_law_times" "_law_times" (defArgs (Hd.top 47)) (defBody (Hd.top 47)) (defScope (Hd.top 47)) [] [] fa fd) (hm : mg "_law_times" = some (.ref fa)) (hb : ∀ x ∈ bn, mg x = none)
    (IH : ∀ (j : Nat) (i : FnI), fns[j]? = some i → FnHas0 (Yp K) P w K mg base d i (call d j)) : FnHas0 (Yp K) P w K mg base (d + 1) ⟨"_law_times", 2, false⟩ (call (d + 1) 40) :=
  ⟨fa, fd, ["one", "other"], hm, F.kp, F.bindsN (fun _ _ _ _ _ _ us hl => match us, hl with | [_, _], _ => rfl), fn_ok (c := ck40) F sc40 rfl rfl rfl (by decide) IH hb ch40⟩
theorem sz40 {fa : Addr} {fd : FuncData} (F : FunD K "_law_times" "_law_times" (defArgs (Hd.top 47)) (defBody (Hd.top 47)) (defScope (Hd.top 47)) [] [] fa fd) (hm : mg "_law_times" = some (.ref fa)) : FnHas0 (Yp K) P w K mg base 0 ⟨"_law_times", 2, false⟩ (fun _ => .bad) :=
  FnHas0.zero (ps := ["one", "other"]) hm F.kp (F.bindsN (fun _ _ _ _ _ _ us hl => match us, hl with | [_, _], _ => rfl))
def N41 : List Str := (["rows", "total", "one"] : List Str)
abbrev ck41 : Ck := ⟨N41, defScope (Hd.top 48), fun _ => true, fns, bn, false⟩
theorem ch41 : chSts ck41 b41 (defBody (Hd.top 48)) = true := by decide +kernel
theorem sc41 : FnScope N41 ["rows"] (defScope (Hd.top 48)) := ⟨rfl, rfl, rfl, by decide +kernel, rfl, by decide +kernel, by decide +kernel⟩
theorem st41 {d : Nat} {fa : Addr} {fd : FuncData} (F : FunD K "_law_total" "_law_total" (defArgs (Hd.top 48)) (defBody (Hd.top 48)) (defScope (Hd.top 48)) [] [] fa fd) (hm : mg "_law_total" = some (.ref fa)) (hb : ∀ x ∈ bn, mg x = none)
    (IH : ∀ (j : Nat) (i : FnI), fns[j]? = some i → FnHas0 (Yp K) P w K mg base d i (call d j)) : FnHas0 (Yp K) P w K mg base (d + 1) ⟨"_law_total", 1, false⟩ (call (d + 1) 41) :=
  ⟨fa, fd, ["rows"], hm, F.kp, F.bindsN (fun _ _ _ _ _ _ us hl => match us, hl with | [_], _ => rfl), fn_ok (c := ck41) F sc41 rfl rfl rfl (by decide) IH hb ch41⟩
theorem sz41 {fa : Addr} {fd : FuncData} (F : FunD K "_law_total" "_law_total" (defArgs (Hd.top 48)) (defBody (Hd.top 48)) (defScope (Hd.top 48)) [] [] fa fd) (hm : mg "_law_total" = some (.ref fa)) : FnHas0 (Yp K) P w K mg base 0 ⟨"_law_total", 1, false⟩ (fun _ => .bad) :=
  FnHas0.zero (ps := ["rows"]) hm F.kp (F.bindsN (fun _ _ _ _ _ _ us hl => match us, hl with | [_], _ => rfl))
def N42 : List Str := (["tape", "many", "parts", "k", "one"] : List Str)
abbrev ck42 : Ck := ⟨N42, defScope (Hd.top 49), fun _ => true, fns, bn, true⟩
theorem ch42 : chSts ck42 b42 (defBody (Hd.top 49)) = true := by decide +kernel
theorem sc42 : FnScope N42 ["tape", "many"] (defScope (Hd.top 49)) := ⟨rfl, rfl, rfl, by decide +kernel, rfl, by decide +kernel, by decide +kernel⟩
theorem st42 {d : Nat} {fa : Addr} {fd : FuncData} (F : FunD K "_law_row" "_law_row" (defArgs (Hd.top 49)) (defBody (Hd.top 49)) (defScope (Hd.top 49)) [] [] fa fd) (hm : mg "_law_row" = some (.ref fa)) (hb : ∀ x ∈ bn, mg x = none)
    (IH : ∀ (j : Nat) (i : FnI), fns[j]? = some i → FnHas0 (Yp K) P w K mg base d i (call d j)) : FnHas0 (Yp K) P w K mg base (d + 1) ⟨"_law_row", 2, true⟩ (call (d + 1) 42) :=
  ⟨fa, fd, ["tape", "many"], hm, F.kp, F.bindsN (fun _ _ _ _ _ _ us hl => match us, hl with | [_, _], _ => rfl), fn_ok (c := ck42) F sc42 rfl rfl rfl (by decide) IH hb ch42⟩
theorem sz42 {fa : Addr} {fd : FuncData} (F : FunD K "_law_row" "_law_row" (defArgs (Hd.top 49)) (defBody (Hd.top 49)) (defScope (Hd.top 49)) [] [] fa fd) (hm : mg "_law_row" = some (.ref fa)) : FnHas0 (Yp K) P w K mg base 0 ⟨"_law_row", 2, true⟩ (fun _ => .bad) :=
  FnHas0.zero (ps := ["tape", "many"]) hm F.kp (F.bindsN (fun _ _ _ _ _ _ us hl => match us, hl with | [_, _], _ => rfl))
def N43 : List Str := (["tape", "most", "many", "parts", "k", "under", "value", "found"] : List Str)
abbrev ck43 : Ck := ⟨N43, defScope (Hd.top 50), fun _ => true, fns, bn, true⟩
theorem ch43 : chSts ck43 b43 (defBody (Hd.top 50)) = true := by decide +kernel
theorem sc43 : FnScope N43 ["tape", "most"] (defScope (Hd.top 50)) := ⟨rfl, rfl, rfl, by decide +kernel, rfl, by decide +kernel, by decide +kernel⟩
theorem st43 {d : Nat} {fa : Addr} {fd : FuncData} (F : FunD K "_law_pairs" "_law_pairs" (defArgs (Hd.top 50)) (defBody (Hd.top 50)) (defScope (Hd.top 50)) [] [] fa fd) (hm : mg "_law_pairs" = some (.ref fa)) (hb : ∀ x ∈ bn, mg x = none)
    (IH : ∀ (j : Nat) (i : FnI), fns[j]? = some i → FnHas0 (Yp K) P w K mg base d i (call d j)) : FnHas0 (Yp K) P w K mg base (d + 1) ⟨"_law_pairs", 2, true⟩ (call (d + 1) 43) :=
  ⟨fa, fd, ["tape", "most"], hm, F.kp, F.bindsN (fun _ _ _ _ _ _ us hl => match us, hl with | [_, _], _ => rfl), fn_ok (c := ck43) F sc43 rfl rfl rfl (by decide) IH hb ch43⟩
theorem sz43 {fa : Addr} {fd : FuncData} (F : FunD K "_law_pairs" "_law_pairs" (defArgs (Hd.top 50)) (defBody (Hd.top 50)) (defScope (Hd.top 50)) [] [] fa fd) (hm : mg "_law_pairs" = some (.ref fa)) : FnHas0 (Yp K) P w K mg base 0 ⟨"_law_pairs", 2, true⟩ (fun _ => .bad) :=
  FnHas0.zero (ps := ["tape", "most"]) hm F.kp (F.bindsN (fun _ _ _ _ _ _ us hl => match us, hl with | [_, _], _ => rfl))
def N44 : List Str := (["pairs", "mark", "value", "chance"] : List Str)
abbrev ck44 : Ck := ⟨N44, defScope (Hd.top 51), fun _ => true, fns, bn, false⟩
theorem ch44 : chSts ck44 b44 (defBody (Hd.top 51)) = true := by decide +kernel
theorem sc44 : FnScope N44 ["pairs", "mark"] (defScope (Hd.top 51)) := ⟨rfl, rfl, rfl, by decide +kernel, rfl, by decide +kernel, by decide +kernel⟩
theorem st44 {d : Nat} {fa : Addr} {fd : FuncData} (F : FunD K "_law_over" "_law_over" (defArgs (Hd.top 51)) (defBody (Hd.top 51)) (defScope (Hd.top 51)) [] [] fa fd) (hm : mg "_law_over" = some (.ref fa)) (hb : ∀ x ∈ bn, mg x = none)
    (IH : ∀ (j : Nat) (i : FnI), fns[j]? = some i → FnHas0 (Yp K) P w K mg base d i (call d j)) : FnHas0 (Yp K) P w K mg base (d + 1) ⟨"_law_over", 2, false⟩ (call (d + 1) 44) :=
  ⟨fa, fd, ["pairs", "mark"], hm, F.kp, F.bindsN (fun _ _ _ _ _ _ us hl => match us, hl with | [_, _], _ => rfl), fn_ok (c := ck44) F sc44 rfl rfl rfl (by decide) IH hb ch44⟩
theorem sz44 {fa : Addr} {fd : FuncData} (F : FunD K "_law_over" "_law_over" (defArgs (Hd.top 51)) (defBody (Hd.top 51)) (defScope (Hd.top 51)) [] [] fa fd) (hm : mg "_law_over" = some (.ref fa)) : FnHas0 (Yp K) P w K mg base 0 ⟨"_law_over", 2, false⟩ (fun _ => .bad) :=
  FnHas0.zero (ps := ["pairs", "mark"]) hm F.kp (F.bindsN (fun _ _ _ _ _ _ us hl => match us, hl with | [_, _], _ => rfl))
def N45 : List Str := (["pairs", "mark", "value", "chance"] : List Str)
abbrev ck45 : Ck := ⟨N45, defScope (Hd.top 52), fun _ => true, fns, bn, false⟩
theorem ch45 : chSts ck45 b45 (defBody (Hd.top 52)) = true := by decide +kernel
theorem sc45 : FnScope N45 ["pairs", "mark"] (defScope (Hd.top 52)) := ⟨rfl, rfl, rfl, by decide +kernel, rfl, by decide +kernel, by decide +kernel⟩
theorem st45 {d : Nat} {fa : Addr} {fd : FuncData} (F : FunD K "_law_up" "_law_up" (defArgs (Hd.top 52)) (defBody (Hd.top 52)) (defScope (Hd.top 52)) [] [] fa fd) (hm : mg "_law_up" = some (.ref fa)) (hb : ∀ x ∈ bn, mg x = none)
    (IH : ∀ (j : Nat) (i : FnI), fns[j]? = some i → FnHas0 (Yp K) P w K mg base d i (call d j)) : FnHas0 (Yp K) P w K mg base (d + 1) ⟨"_law_up", 2, false⟩ (call (d + 1) 45) :=
  ⟨fa, fd, ["pairs", "mark"], hm, F.kp, F.bindsN (fun _ _ _ _ _ _ us hl => match us, hl with | [_, _], _ => rfl), fn_ok (c := ck45) F sc45 rfl rfl rfl (by decide) IH hb ch45⟩
theorem sz45 {fa : Addr} {fd : FuncData} (F : FunD K "_law_up" "_law_up" (defArgs (Hd.top 52)) (defBody (Hd.top 52)) (defScope (Hd.top 52)) [] [] fa fd) (hm : mg "_law_up" = some (.ref fa)) : FnHas0 (Yp K) P w K mg base 0 ⟨"_law_up", 2, false⟩ (fun _ => .bad) :=
  FnHas0.zero (ps := ["pairs", "mark"]) hm F.kp (F.bindsN (fun _ _ _ _ _ _ us hl => match us, hl with | [_, _], _ => rfl))
def N46 : List Str := (["pairs", "value", "chance"] : List Str)
abbrev ck46 : Ck := ⟨N46, defScope (Hd.top 53), fun _ => true, fns, bn, false⟩
theorem ch46 : chSts ck46 b46 (defBody (Hd.top 53)) = true := by decide +kernel
theorem sc46 : FnScope N46 ["pairs"] (defScope (Hd.top 53)) := ⟨rfl, rfl, rfl, by decide +kernel, rfl, by decide +kernel, by decide +kernel⟩
theorem st46 {d : Nat} {fa : Addr} {fd : FuncData} (F : FunD K "_law_mean" "_law_mean" (defArgs (Hd.top 53)) (defBody (Hd.top 53)) (defScope (Hd.top 53)) [] [] fa fd) (hm : mg "_law_mean" = some (.ref fa)) (hb : ∀ x ∈ bn, mg x = none)
    (IH : ∀ (j : Nat) (i : FnI), fns[j]? = some i → FnHas0 (Yp K) P w K mg base d i (call d j)) : FnHas0 (Yp K) P w K mg base (d + 1) ⟨"_law_mean", 1, false⟩ (call (d + 1) 46) :=
  ⟨fa, fd, ["pairs"], hm, F.kp, F.bindsN (fun _ _ _ _ _ _ us hl => match us, hl with | [_], _ => rfl), fn_ok (c := ck46) F sc46 rfl rfl rfl (by decide) IH hb ch46⟩
theorem sz46 {fa : Addr} {fd : FuncData} (F : FunD K "_law_mean" "_law_mean" (defArgs (Hd.top 53)) (defBody (Hd.top 53)) (defScope (Hd.top 53)) [] [] fa fd) (hm : mg "_law_mean" = some (.ref fa)) : FnHas0 (Yp K) P w K mg base 0 ⟨"_law_mean", 1, false⟩ (fun _ => .bad) :=
  FnHas0.zero (ps := ["pairs"]) hm F.kp (F.bindsN (fun _ _ _ _ _ _ us hl => match us, hl with | [_], _ => rfl))
def N47 : List Str := (["rows", "found", "pairs", "value", "chance", "at", "one"] : List Str)
abbrev ck47 : Ck := ⟨N47, defScope (Hd.top 54), fun _ => true, fns, bn, false⟩
theorem ch47 : chSts ck47 b47 (defBody (Hd.top 54)) = true := by decide +kernel
theorem sc47 : FnScope N47 ["rows"] (defScope (Hd.top 54)) := ⟨rfl, rfl, rfl, by decide +kernel, rfl, by decide +kernel, by decide +kernel⟩
theorem st47 {d : Nat} {fa : Addr} {fd : FuncData} (F : FunD K "_law_marks" "_law_marks" (defArgs (Hd.top 54)) (defBody (Hd.top 54)) (defScope (Hd.top 54)) [] [] fa fd) (hm : mg "_law_marks" = some (.ref fa)) (hb : ∀ x ∈ bn, mg x = none)
    (IH : ∀ (j : Nat) (i : FnI), fns[j]? = some i → FnHas0 (Yp K) P w K mg base d i (call d j)) : FnHas0 (Yp K) P w K mg base (d + 1) ⟨"_law_marks", 1, false⟩ (call (d + 1) 47) :=
  ⟨fa, fd, ["rows"], hm, F.kp, F.bindsN (fun _ _ _ _ _ _ us hl => match us, hl with | [_], _ => rfl), fn_ok (c := ck47) F sc47 rfl rfl rfl (by decide) IH hb ch47⟩
theorem sz47 {fa : Addr} {fd : FuncData} (F : FunD K "_law_marks" "_law_marks" (defArgs (Hd.top 54)) (defBody (Hd.top 54)) (defScope (Hd.top 54)) [] [] fa fd) (hm : mg "_law_marks" = some (.ref fa)) : FnHas0 (Yp K) P w K mg base 0 ⟨"_law_marks", 1, false⟩ (fun _ => .bad) :=
  FnHas0.zero (ps := ["rows"]) hm F.kp (F.bindsN (fun _ _ _ _ _ _ us hl => match us, hl with | [_], _ => rfl))
def N48 : List Str := (["tape", "many", "columns", "j", "k"] : List Str)
abbrev ck48 : Ck := ⟨N48, defScope (Hd.top 55), fun _ => true, fns, bn, true⟩
theorem ch48 : chSts ck48 b48 (defBody (Hd.top 55)) = true := by decide +kernel
theorem sc48 : FnScope N48 ["tape", "many", "columns"] (defScope (Hd.top 55)) := ⟨rfl, rfl, rfl, by decide +kernel, rfl, by decide +kernel, by decide +kernel⟩
theorem st48 {d : Nat} {fa : Addr} {fd : FuncData} (F : FunD K "_law_table" "_law_table" (defArgs (Hd.top 55)) (defBody (Hd.top 55)) (defScope (Hd.top 55)) [] [] fa fd) (hm : mg "_law_table" = some (.ref fa)) (hb : ∀ x ∈ bn, mg x = none)
    (IH : ∀ (j : Nat) (i : FnI), fns[j]? = some i → FnHas0 (Yp K) P w K mg base d i (call d j)) : FnHas0 (Yp K) P w K mg base (d + 1) ⟨"_law_table", 3, true⟩ (call (d + 1) 48) :=
  ⟨fa, fd, ["tape", "many", "columns"], hm, F.kp, F.bindsN (fun _ _ _ _ _ _ us hl => match us, hl with | [_, _, _], _ => rfl), fn_ok (c := ck48) F sc48 rfl rfl rfl (by decide) IH hb ch48⟩
theorem sz48 {fa : Addr} {fd : FuncData} (F : FunD K "_law_table" "_law_table" (defArgs (Hd.top 55)) (defBody (Hd.top 55)) (defScope (Hd.top 55)) [] [] fa fd) (hm : mg "_law_table" = some (.ref fa)) : FnHas0 (Yp K) P w K mg base 0 ⟨"_law_table", 3, true⟩ (fun _ => .bad) :=
  FnHas0.zero (ps := ["tape", "many", "columns"]) hm F.kp (F.bindsN (fun _ _ _ _ _ _ us hl => match us, hl with | [_, _, _], _ => rfl))
def N49 : List Str := (["first", "second", "columns", "found", "row", "k", "j"] : List Str)
abbrev ck49 : Ck := ⟨N49, defScope (Hd.top 56), fun _ => true, fns, bn, false⟩
theorem ch49 : chSts ck49 b49 (defBody (Hd.top 56)) = true := by decide +kernel
theorem sc49 : FnScope N49 ["first", "second", "columns"] (defScope (Hd.top 56)) := ⟨rfl, rfl, rfl, by decide +kernel, rfl, by decide +kernel, by decide +kernel⟩
theorem st49 {d : Nat} {fa : Addr} {fd : FuncData} (F : FunD K "_law_product" "_law_product" (defArgs (Hd.top 56)) (defBody (Hd.top 56)) (defScope (Hd.top 56)) [] [] fa fd) (hm : mg "_law_product" = some (.ref fa)) (hb : ∀ x ∈ bn, mg x = none)
    (IH : ∀ (j : Nat) (i : FnI), fns[j]? = some i → FnHas0 (Yp K) P w K mg base d i (call d j)) : FnHas0 (Yp K) P w K mg base (d + 1) ⟨"_law_product", 3, false⟩ (call (d + 1) 49) :=
  ⟨fa, fd, ["first", "second", "columns"], hm, F.kp, F.bindsN (fun _ _ _ _ _ _ us hl => match us, hl with | [_, _, _], _ => rfl), fn_ok (c := ck49) F sc49 rfl rfl rfl (by decide) IH hb ch49⟩
theorem sz49 {fa : Addr} {fd : FuncData} (F : FunD K "_law_product" "_law_product" (defArgs (Hd.top 56)) (defBody (Hd.top 56)) (defScope (Hd.top 56)) [] [] fa fd) (hm : mg "_law_product" = some (.ref fa)) : FnHas0 (Yp K) P w K mg base 0 ⟨"_law_product", 3, false⟩ (fun _ => .bad) :=
  FnHas0.zero (ps := ["first", "second", "columns"]) hm F.kp (F.bindsN (fun _ _ _ _ _ _ us hl => match us, hl with | [_, _, _], _ => rfl))
def N50 : List Str := (["first", "second", "i", "found", "up", "j", "row", "right", "end", "low", "high"] : List Str)
abbrev ck50 : Ck := ⟨N50, defScope (Hd.top 57), fun _ => true, fns, bn, false⟩
theorem ch50 : chSts ck50 b50 (defBody (Hd.top 57)) = true := by decide +kernel
theorem sc50 : FnScope N50 ["first", "second"] (defScope (Hd.top 57)) := ⟨rfl, rfl, rfl, by decide +kernel, rfl, by decide +kernel, by decide +kernel⟩
theorem st50 {d : Nat} {fa : Addr} {fd : FuncData} (F : FunD K "_law_corner" "_law_corner" (defArgs (Hd.top 57)) (defBody (Hd.top 57)) (defScope (Hd.top 57)) [] [] fa fd) (hm : mg "_law_corner" = some (.ref fa)) (hb : ∀ x ∈ bn, mg x = none)
    (IH : ∀ (j : Nat) (i : FnI), fns[j]? = some i → FnHas0 (Yp K) P w K mg base d i (call d j)) : FnHas0 (Yp K) P w K mg base (d + 1) ⟨"_law_corner", 2, false⟩ (call (d + 1) 50) :=
  ⟨fa, fd, ["first", "second"], hm, F.kp, F.bindsN (fun _ _ _ _ _ _ us hl => match us, hl with | [_, _], _ => rfl), fn_ok (c := ck50) F sc50 rfl rfl rfl (by decide) IH hb ch50⟩
theorem sz50 {fa : Addr} {fd : FuncData} (F : FunD K "_law_corner" "_law_corner" (defArgs (Hd.top 57)) (defBody (Hd.top 57)) (defScope (Hd.top 57)) [] [] fa fd) (hm : mg "_law_corner" = some (.ref fa)) : FnHas0 (Yp K) P w K mg base 0 ⟨"_law_corner", 2, false⟩ (fun _ => .bad) :=
  FnHas0.zero (ps := ["first", "second"]) hm F.kp (F.bindsN (fun _ _ _ _ _ _ us hl => match us, hl with | [_, _], _ => rfl))
def N51 : List Str := (["first", "second", "value", "row", "k", "one"] : List Str)
abbrev ck51 : Ck := ⟨N51, defScope (Hd.top 58), fun _ => true, fns, bn, false⟩
theorem ch51 : chSts ck51 b51 (defBody (Hd.top 58)) = true := by decide +kernel
theorem sc51 : FnScope N51 ["first", "second", "value"] (defScope (Hd.top 58)) := ⟨rfl, rfl, rfl, by decide +kernel, rfl, by decide +kernel, by decide +kernel⟩
theorem st51 {d : Nat} {fa : Addr} {fd : FuncData} (F : FunD K "_law_is" "_law_is" (defArgs (Hd.top 58)) (defBody (Hd.top 58)) (defScope (Hd.top 58)) [] [] fa fd) (hm : mg "_law_is" = some (.ref fa)) (hb : ∀ x ∈ bn, mg x = none)
    (IH : ∀ (j : Nat) (i : FnI), fns[j]? = some i → FnHas0 (Yp K) P w K mg base d i (call d j)) : FnHas0 (Yp K) P w K mg base (d + 1) ⟨"_law_is", 3, false⟩ (call (d + 1) 51) :=
  ⟨fa, fd, ["first", "second", "value"], hm, F.kp, F.bindsN (fun _ _ _ _ _ _ us hl => match us, hl with | [_, _, _], _ => rfl), fn_ok (c := ck51) F sc51 rfl rfl rfl (by decide) IH hb ch51⟩
theorem sz51 {fa : Addr} {fd : FuncData} (F : FunD K "_law_is" "_law_is" (defArgs (Hd.top 58)) (defBody (Hd.top 58)) (defScope (Hd.top 58)) [] [] fa fd) (hm : mg "_law_is" = some (.ref fa)) : FnHas0 (Yp K) P w K mg base 0 ⟨"_law_is", 3, false⟩ (fun _ => .bad) :=
  FnHas0.zero (ps := ["first", "second", "value"]) hm F.kp (F.bindsN (fun _ _ _ _ _ _ us hl => match us, hl with | [_, _, _], _ => rfl))
def N52 : List Str := (["one", "k"] : List Str)
abbrev ck52 : Ck := ⟨N52, defScope (Hd.top 59), fun _ => true, fns, bn, false⟩
theorem ch52 : chSts ck52 b52 (defBody (Hd.top 59)) = true := by decide +kernel
theorem sc52 : FnScope N52 ["one"] (defScope (Hd.top 59)) := ⟨rfl, rfl, rfl, by decide +kernel, rfl, by decide +kernel, by decide +kernel⟩
theorem st52 {d : Nat} {fa : Addr} {fd : FuncData} (F : FunD K "_law_good" "_law_good" (defArgs (Hd.top 59)) (defBody (Hd.top 59)) (defScope (Hd.top 59)) [] [] fa fd) (hm : mg "_law_good" = some (.ref fa)) (hb : ∀ x ∈ bn, mg x = none)
    (IH : ∀ (j : Nat) (i : FnI), fns[j]? = some i → FnHas0 (Yp K) P w K mg base d i (call d j)) : FnHas0 (Yp K) P w K mg base (d + 1) ⟨"_law_good", 1, false⟩ (call (d + 1) 52) :=
  ⟨fa, fd, ["one"], hm, F.kp, F.bindsN (fun _ _ _ _ _ _ us hl => match us, hl with | [_], _ => rfl), fn_ok (c := ck52) F sc52 rfl rfl rfl (by decide) IH hb ch52⟩
theorem sz52 {fa : Addr} {fd : FuncData} (F : FunD K "_law_good" "_law_good" (defArgs (Hd.top 59)) (defBody (Hd.top 59)) (defScope (Hd.top 59)) [] [] fa fd) (hm : mg "_law_good" = some (.ref fa)) : FnHas0 (Yp K) P w K mg base 0 ⟨"_law_good", 1, false⟩ (fun _ => .bad) :=
  FnHas0.zero (ps := ["one"]) hm F.kp (F.bindsN (fun _ _ _ _ _ _ us hl => match us, hl with | [_], _ => rfl))
def N53 : List Str := (["tape", "table", "new", "row", "i", "j"] : List Str)
abbrev ck53 : Ck := ⟨N53, defScope (Hd.top 60), fun _ => true, fns, bn, true⟩
theorem ch53 : chSts ck53 b53 (defBody (Hd.top 60)) = true := by decide +kernel
theorem sc53 : FnScope N53 ["tape", "table"] (defScope (Hd.top 60)) := ⟨rfl, rfl, rfl, by decide +kernel, rfl, by decide +kernel, by decide +kernel⟩
theorem st53 {d : Nat} {fa : Addr} {fd : FuncData} (F : FunD K "_law_bent" "_law_bent" (defArgs (Hd.top 60)) (defBody (Hd.top 60)) (defScope (Hd.top 60)) [] [] fa fd) (hm : mg "_law_bent" = some (.ref fa)) (hb : ∀ x ∈ bn, mg x = none)
    (IH : ∀ (j : Nat) (i : FnI), fns[j]? = some i → FnHas0 (Yp K) P w K mg base d i (call d j)) : FnHas0 (Yp K) P w K mg base (d + 1) ⟨"_law_bent", 2, true⟩ (call (d + 1) 53) :=
  ⟨fa, fd, ["tape", "table"], hm, F.kp, F.bindsN (fun _ _ _ _ _ _ us hl => match us, hl with | [_, _], _ => rfl), fn_ok (c := ck53) F sc53 rfl rfl rfl (by decide) IH hb ch53⟩
theorem sz53 {fa : Addr} {fd : FuncData} (F : FunD K "_law_bent" "_law_bent" (defArgs (Hd.top 60)) (defBody (Hd.top 60)) (defScope (Hd.top 60)) [] [] fa fd) (hm : mg "_law_bent" = some (.ref fa)) : FnHas0 (Yp K) P w K mg base 0 ⟨"_law_bent", 2, true⟩ (fun _ => .bad) :=
  FnHas0.zero (ps := ["tape", "table"]) hm F.kp (F.bindsN (fun _ _ _ _ _ _ us hl => match us, hl with | [_, _], _ => rfl))
def N54 : List Str := (["script", "tape", "turned", "told", "product", "both", "dots", "scale", "square", "plain", "power", "times", "turn", "even", "corner", "apart", "used", "i", "kernel", "value", "odd", "many", "columns", "wide", "table", "more", "other", "first", "second", "left"] : List Str) ++ (["right", "weights", "k", "j", "a", "one", "row", "b"] : List Str)
abbrev ck54 : Ck := ⟨N54, defScope (Hd.top 61), fun _ => true, fns, bn, false⟩
theorem ch54 : chSts ck54 b54 (defBody (Hd.top 61)) = true := by decide +kernel
theorem sc54 : FnScope N54 ["script"] (defScope (Hd.top 61)) := ⟨rfl, rfl, rfl, by decide +kernel, rfl, by decide +kernel, by decide +kernel⟩
theorem st54 {d : Nat} {fa : Addr} {fd : FuncData} (F : FunD K "law" "law" (defArgs (Hd.top 61)) (defBody (Hd.top 61)) (defScope (Hd.top 61)) [] [] fa fd) (hm : mg "law" = some (.ref fa)) (hb : ∀ x ∈ bn, mg x = none)
    (IH : ∀ (j : Nat) (i : FnI), fns[j]? = some i → FnHas0 (Yp K) P w K mg base d i (call d j)) : FnHas0 (Yp K) P w K mg base (d + 1) ⟨"law", 1, false⟩ (call (d + 1) 54) :=
  ⟨fa, fd, ["script"], hm, F.kp, F.bindsN (fun _ _ _ _ _ _ us hl => match us, hl with | [_], _ => rfl), fn_ok (c := ck54) F sc54 rfl rfl rfl (by decide) IH hb ch54⟩
theorem sz54 {fa : Addr} {fd : FuncData} (F : FunD K "law" "law" (defArgs (Hd.top 61)) (defBody (Hd.top 61)) (defScope (Hd.top 61)) [] [] fa fd) (hm : mg "law" = some (.ref fa)) : FnHas0 (Yp K) P w K mg base 0 ⟨"law", 1, false⟩ (fun _ => .bad) :=
  FnHas0.zero (ps := ["script"]) hm F.kp (F.bindsN (fun _ _ _ _ _ _ us hl => match us, hl with | [_], _ => rfl))
/-- every def, at every depth -/
theorem all (X : K.In base) (G : base.Ns mainGlobals mg) (c : He.SaysD Hd.fa Hd.fn K) (hb : ∀ x ∈ bn, mg x = none) : ∀ (d j : Nat) (i : FnI), fns[j]? = some i → FnHas0 (Yp K) P w K mg base d i (call d j)
  | 0, j, i, h => match j, h with
    | 0, h => by cases h; obtain ⟨fd, F⟩ := c.def_ 0 (d := Hd.mkD ("made", none) "made" "made" (Hd.top 5)) rfl; exact sz0 F (He.glo_ok X G (c.fact 3 (f := .glo "made") rfl))
    | 1, h => by cases h; obtain ⟨fd, F⟩ := c.def_ 1 (d := Hd.mkD ("plus_f", none) "plus_f" "plus_f" (Hd.top 6)) rfl; exact sz1 F (He.glo_ok X G (c.fact 4 (f := .glo "plus_f") rfl))
    | 2, h => by cases h; obtain ⟨fd, F⟩ := c.def_ 2 (d := Hd.mkD ("minus_f", none) "minus_f" "minus_f" (Hd.top 7)) rfl; exact sz2 F (He.glo_ok X G (c.fact 5 (f := .glo "minus_f") rfl))
    | 3, h => by cases h; obtain ⟨fd, F⟩ := c.def_ 3 (d := Hd.mkD ("times_f", none) "times_f" "times_f" (Hd.top 8)) rfl; exact sz3 F (He.glo_ok X G (c.fact 6 (f := .glo "times_f") rfl))
    | 4, h => by cases h; obtain ⟨fd, F⟩ := c.def_ 4 (d := Hd.mkD ("over_f", none) "over_f" "over_f" (Hd.top 9)) rfl; exact sz4 F (He.glo_ok X G (c.fact 7 (f := .glo "over_f") rfl))
    | 5, h => by cases h; obtain ⟨fd, F⟩ := c.def_ 5 (d := Hd.mkD ("sum_f", none) "sum_f" "sum_f" (Hd.top 10)) rfl; exact sz5 F (He.glo_ok X G (c.fact 8 (f := .glo "sum_f") rfl))
    | 6, h => by cases h; obtain ⟨fd, F⟩ := c.def_ 6 (d := Hd.mkD ("is_fraction", none) "is_fraction" "is_fraction" (Hd.top 11)) rfl; exact sz6 F (He.glo_ok X G (c.fact 9 (f := .glo "is_fraction") rfl))
    | 7, h => by cases h; obtain ⟨fd, F⟩ := c.def_ 7 (d := Hd.mkD ("is_row_of_f", none) "is_row_of_f" "is_row_of_f" (Hd.top 13)) rfl; exact sz7 F (He.glo_ok X G (c.fact 10 (f := .glo "is_row_of_f") rfl))
    | 8, h => by cases h; obtain ⟨fd, F⟩ := c.def_ 8 (d := Hd.mkD ("is_table", none) "is_table" "is_table" (Hd.top 14)) rfl; exact sz8 F (He.glo_ok X G (c.fact 11 (f := .glo "is_table") rfl))
    | 9, h => by cases h; obtain ⟨fd, F⟩ := c.def_ 9 (d := Hd.mkD ("check_table", none) "check_table" "check_table" (Hd.top 15)) rfl; exact sz9 F (He.glo_ok X G (c.fact 12 (f := .glo "check_table") rfl))
    | 10, h => by cases h; obtain ⟨fd, F⟩ := c.def_ 10 (d := Hd.mkD ("is_weights", none) "is_weights" "is_weights" (Hd.top 16)) rfl; exact sz10 F (He.glo_ok X G (c.fact 13 (f := .glo "is_weights") rfl))
    | 11, h => by cases h; obtain ⟨fd, F⟩ := c.def_ 11 (d := Hd.mkD ("check_weights", none) "check_weights" "check_weights" (Hd.top 17)) rfl; exact sz11 F (He.glo_ok X G (c.fact 14 (f := .glo "check_weights") rfl))
    | 12, h => by cases h; obtain ⟨fd, F⟩ := c.def_ 12 (d := Hd.mkD ("is_chances", none) "is_chances" "is_chances" (Hd.top 18)) rfl; exact sz12 F (He.glo_ok X G (c.fact 15 (f := .glo "is_chances") rfl))
    | 13, h => by cases h; obtain ⟨fd, F⟩ := c.def_ 13 (d := Hd.mkD ("is_kernel", none) "is_kernel" "is_kernel" (Hd.top 19)) rfl; exact sz13 F (He.glo_ok X G (c.fact 16 (f := .glo "is_kernel") rfl))
    | 14, h => by cases h; obtain ⟨fd, F⟩ := c.def_ 14 (d := Hd.mkD ("check_kernel", none) "check_kernel" "check_kernel" (Hd.top 20)) rfl; exact sz14 F (He.glo_ok X G (c.fact 17 (f := .glo "check_kernel") rfl))
    | 15, h => by cases h; obtain ⟨fd, F⟩ := c.def_ 15 (d := Hd.mkD ("row_sums", none) "row_sums" "row_sums" (Hd.top 21)) rfl; exact sz15 F (He.glo_ok X G (c.fact 18 (f := .glo "row_sums") rfl))
    | 16, h => by cases h; obtain ⟨fd, F⟩ := c.def_ 16 (d := Hd.mkD ("column_sums", none) "column_sums" "column_sums" (Hd.top 22)) rfl; exact sz16 F (He.glo_ok X G (c.fact 19 (f := .glo "column_sums") rfl))
    | 17, h => by cases h; obtain ⟨fd, F⟩ := c.def_ 17 (d := Hd.mkD ("is_coupling", none) "is_coupling" "is_coupling" (Hd.top 23)) rfl; exact sz17 F (He.glo_ok X G (c.fact 20 (f := .glo "is_coupling") rfl))
    | 18, h => by cases h; obtain ⟨fd, F⟩ := c.def_ 18 (d := Hd.mkD ("check_like_sums", none) "check_like_sums" "check_like_sums" (Hd.top 24)) rfl; exact sz18 F (He.glo_ok X G (c.fact 21 (f := .glo "check_like_sums") rfl))
    | 19, h => by cases h; obtain ⟨fd, F⟩ := c.def_ 19 (d := Hd.mkD ("turned_table", none) "turned_table" "turned_table" (Hd.top 25)) rfl; exact sz19 F (He.glo_ok X G (c.fact 22 (f := .glo "turned_table") rfl))
    | 20, h => by cases h; obtain ⟨fd, F⟩ := c.def_ 20 (d := Hd.mkD ("times_table", none) "times_table" "times_table" (Hd.top 26)) rfl; exact sz20 F (He.glo_ok X G (c.fact 23 (f := .glo "times_table") rfl))
    | 21, h => by cases h; obtain ⟨fd, F⟩ := c.def_ 21 (d := Hd.mkD ("times_row", none) "times_row" "times_row" (Hd.top 27)) rfl; exact sz21 F (He.glo_ok X G (c.fact 24 (f := .glo "times_row") rfl))
    | 22, h => by cases h; obtain ⟨fd, F⟩ := c.def_ 22 (d := Hd.mkD ("dot_f", none) "dot_f" "dot_f" (Hd.top 28)) rfl; exact sz22 F (He.glo_ok X G (c.fact 25 (f := .glo "dot_f") rfl))
    | 23, h => by cases h; obtain ⟨fd, F⟩ := c.def_ 23 (d := Hd.mkD ("dot_table", none) "dot_table" "dot_table" (Hd.top 29)) rfl; exact sz23 F (He.glo_ok X G (c.fact 26 (f := .glo "dot_table") rfl))
    | 24, h => by cases h; obtain ⟨fd, F⟩ := c.def_ 24 (d := Hd.mkD ("plain_kernel", none) "plain_kernel" "plain_kernel" (Hd.top 30)) rfl; exact sz24 F (He.glo_ok X G (c.fact 27 (f := .glo "plain_kernel") rfl))
    | 25, h => by cases h; obtain ⟨fd, F⟩ := c.def_ 25 (d := Hd.mkD ("even_kernel", none) "even_kernel" "even_kernel" (Hd.top 31)) rfl; exact sz25 F (He.glo_ok X G (c.fact 28 (f := .glo "even_kernel") rfl))
    | 26, h => by cases h; obtain ⟨fd, F⟩ := c.def_ 26 (d := Hd.mkD ("kernel_power", none) "kernel_power" "kernel_power" (Hd.top 32)) rfl; exact sz26 F (He.glo_ok X G (c.fact 29 (f := .glo "kernel_power") rfl))
    | 27, h => by cases h; obtain ⟨fd, F⟩ := c.def_ 27 (d := Hd.mkD ("apart_coupling", none) "apart_coupling" "apart_coupling" (Hd.top 33)) rfl; exact sz27 F (He.glo_ok X G (c.fact 30 (f := .glo "apart_coupling") rfl))
    | 28, h => by cases h; obtain ⟨fd, F⟩ := c.def_ 28 (d := Hd.mkD ("corner_coupling", none) "corner_coupling" "corner_coupling" (Hd.top 34)) rfl; exact sz28 F (He.glo_ok X G (c.fact 31 (f := .glo "corner_coupling") rfl))
    | 29, h => by cases h; obtain ⟨fd, F⟩ := c.def_ 29 (d := Hd.mkD ("kernel_of", none) "kernel_of" "kernel_of" (Hd.top 35)) rfl; exact sz29 F (He.glo_ok X G (c.fact 32 (f := .glo "kernel_of") rfl))
    | 30, h => by cases h; obtain ⟨fd, F⟩ := c.def_ 30 (d := Hd.mkD ("coupling_of", none) "coupling_of" "coupling_of" (Hd.top 36)) rfl; exact sz30 F (He.glo_ok X G (c.fact 33 (f := .glo "coupling_of") rfl))
    | 31, h => by cases h; obtain ⟨fd, F⟩ := c.def_ 31 (d := Hd.mkD ("places_used", none) "places_used" "places_used" (Hd.top 37)) rfl; exact sz31 F (He.glo_ok X G (c.fact 34 (f := .glo "places_used") rfl))
    | 32, h => by cases h; obtain ⟨fd, F⟩ := c.def_ 32 (d := Hd.mkD ("plus_table", none) "plus_table" "plus_table" (Hd.top 38)) rfl; exact sz32 F (He.glo_ok X G (c.fact 35 (f := .glo "plus_table") rfl))
    | 33, h => by cases h; obtain ⟨fd, F⟩ := c.def_ 33 (d := Hd.mkD ("scaled_table", none) "scaled_table" "scaled_table" (Hd.top 39)) rfl; exact sz33 F (He.glo_ok X G (c.fact 36 (f := .glo "scaled_table") rfl))
    | 34, h => by cases h; obtain ⟨fd, F⟩ := c.def_ 34 (d := Hd.mkD ("_law_next", none) "_law_next" "_law_next" (Hd.top 41)) rfl; exact sz34 F (He.glo_ok X G (c.fact 37 (f := .glo "_law_next") rfl))
    | 35, h => by cases h; obtain ⟨fd, F⟩ := c.def_ 35 (d := Hd.mkD ("_law_same", none) "_law_same" "_law_same" (Hd.top 42)) rfl; exact sz35 F (He.glo_ok X G (c.fact 38 (f := .glo "_law_same") rfl))
    | 36, h => by cases h; obtain ⟨fd, F⟩ := c.def_ 36 (d := Hd.mkD ("_law_least", none) "_law_least" "_law_least" (Hd.top 43)) rfl; exact sz36 F (He.glo_ok X G (c.fact 39 (f := .glo "_law_least") rfl))
    | 37, h => by cases h; obtain ⟨fd, F⟩ := c.def_ 37 (d := Hd.mkD ("_law_plus", none) "_law_plus" "_law_plus" (Hd.top 44)) rfl; exact sz37 F (He.glo_ok X G (c.fact 40 (f := .glo "_law_plus") rfl))
    | 38, h => by cases h; obtain ⟨fd, F⟩ := c.def_ 38 (d := Hd.mkD ("_law_less", none) "_law_less" "_law_less" (Hd.top 45)) rfl; exact sz38 F (He.glo_ok X G (c.fact 41 (f := .glo "_law_less") rfl))
    | 39, h => by cases h; obtain ⟨fd, F⟩ := c.def_ 39 (d := Hd.mkD ("_law_minus", none) "_law_minus" "_law_minus" (Hd.top 46)) rfl; exact sz39 F (He.glo_ok X G (c.fact 42 (f := .glo "_law_minus") rfl))
    | 40, h => by cases h; obtain ⟨fd, F⟩ := c.def_ 40 (d := Hd.mkD ("_law_times", none) "_law_times" "_law_times" (Hd.top 47)) rfl; exact sz40 F (He.glo_ok X G (c.fact 43 (f := .glo "_law_times") rfl))
    | 41, h => by cases h; obtain ⟨fd, F⟩ := c.def_ 41 (d := Hd.mkD ("_law_total", none) "_law_total" "_law_total" (Hd.top 48)) rfl; exact sz41 F (He.glo_ok X G (c.fact 44 (f := .glo "_law_total") rfl))
    | 42, h => by cases h; obtain ⟨fd, F⟩ := c.def_ 42 (d := Hd.mkD ("_law_row", none) "_law_row" "_law_row" (Hd.top 49)) rfl; exact sz42 F (He.glo_ok X G (c.fact 45 (f := .glo "_law_row") rfl))
    | 43, h => by cases h; obtain ⟨fd, F⟩ := c.def_ 43 (d := Hd.mkD ("_law_pairs", none) "_law_pairs" "_law_pairs" (Hd.top 50)) rfl; exact sz43 F (He.glo_ok X G (c.fact 46 (f := .glo "_law_pairs") rfl))
    | 44, h => by cases h; obtain ⟨fd, F⟩ := c.def_ 44 (d := Hd.mkD ("_law_over", none) "_law_over" "_law_over" (Hd.top 51)) rfl; exact sz44 F (He.glo_ok X G (c.fact 47 (f := .glo "_law_over") rfl))
    | 45, h => by cases h; obtain ⟨fd, F⟩ := c.def_ 45 (d := Hd.mkD ("_law_up", none) "_law_up" "_law_up" (Hd.top 52)) rfl; exact sz45 F (He.glo_ok X G (c.fact 48 (f := .glo "_law_up") rfl))
    | 46, h => by cases h; obtain ⟨fd, F⟩ := c.def_ 46 (d := Hd.mkD ("_law_mean", none) "_law_mean" "_law_mean" (Hd.top 53)) rfl; exact sz46 F (He.glo_ok X G (c.fact 49 (f := .glo "_law_mean") rfl))
    | 47, h => by cases h; obtain ⟨fd, F⟩ := c.def_ 47 (d := Hd.mkD ("_law_marks", none) "_law_marks" "_law_marks" (Hd.top 54)) rfl; exact sz47 F (He.glo_ok X G (c.fact 50 (f := .glo "_law_marks") rfl))
    | 48, h => by cases h; obtain ⟨fd, F⟩ := c.def_ 48 (d := Hd.mkD ("_law_table", none) "_law_table" "_law_table" (Hd.top 55)) rfl; exact sz48 F (He.glo_ok X G (c.fact 51 (f := .glo "_law_table") rfl))
    | 49, h => by cases h; obtain ⟨fd, F⟩ := c.def_ 49 (d := Hd.mkD ("_law_product", none) "_law_product" "_law_product" (Hd.top 56)) rfl; exact sz49 F (He.glo_ok X G (c.fact 52 (f := .glo "_law_product") rfl))
    | 50, h => by cases h; obtain ⟨fd, F⟩ := c.def_ 50 (d := Hd.mkD ("_law_corner", none) "_law_corner" "_law_corner" (Hd.top 57)) rfl; exact sz50 F (He.glo_ok X G (c.fact 53 (f := .glo "_law_corner") rfl))
    | 51, h => by cases h; obtain ⟨fd, F⟩ := c.def_ 51 (d := Hd.mkD ("_law_is", none) "_law_is" "_law_is" (Hd.top 58)) rfl; exact sz51 F (He.glo_ok X G (c.fact 54 (f := .glo "_law_is") rfl))
    | 52, h => by cases h; obtain ⟨fd, F⟩ := c.def_ 52 (d := Hd.mkD ("_law_good", none) "_law_good" "_law_good" (Hd.top 59)) rfl; exact sz52 F (He.glo_ok X G (c.fact 55 (f := .glo "_law_good") rfl))
    | 53, h => by cases h; obtain ⟨fd, F⟩ := c.def_ 53 (d := Hd.mkD ("_law_bent", none) "_law_bent" "_law_bent" (Hd.top 60)) rfl; exact sz53 F (He.glo_ok X G (c.fact 56 (f := .glo "_law_bent") rfl))
    | 54, h => by cases h; obtain ⟨fd, F⟩ := c.def_ 54 (d := Hd.mkD ("law", none) "law" "law" (Hd.top 61)) rfl; exact sz54 F (He.glo_ok X G (c.fact 57 (f := .glo "law") rfl))
    | j + 55, h => by cases h
  | d + 1, j, i, h => match j, h with
    | 0, h => by cases h; obtain ⟨fd, F⟩ := c.def_ 0 (d := Hd.mkD ("made", none) "made" "made" (Hd.top 5)) rfl; exact st0 F (He.glo_ok X G (c.fact 3 (f := .glo "made") rfl)) hb (all X G c hb d)
    | 1, h => by cases h; obtain ⟨fd, F⟩ := c.def_ 1 (d := Hd.mkD ("plus_f", none) "plus_f" "plus_f" (Hd.top 6)) rfl; exact st1 F (He.glo_ok X G (c.fact 4 (f := .glo "plus_f") rfl)) hb (all X G c hb d)
    | 2, h => by cases h; obtain ⟨fd, F⟩ := c.def_ 2 (d := Hd.mkD ("minus_f", none) "minus_f" "minus_f" (Hd.top 7)) rfl; exact st2 F (He.glo_ok X G (c.fact 5 (f := .glo "minus_f") rfl)) hb (all X G c hb d)
    | 3, h => by cases h; obtain ⟨fd, F⟩ := c.def_ 3 (d := Hd.mkD ("times_f", none) "times_f" "times_f" (Hd.top 8)) rfl; exact st3 F (He.glo_ok X G (c.fact 6 (f := .glo "times_f") rfl)) hb (all X G c hb d)
    | 4, h => by cases h; obtain ⟨fd, F⟩ := c.def_ 4 (d := Hd.mkD ("over_f", none) "over_f" "over_f" (Hd.top 9)) rfl; exact st4 F (He.glo_ok X G (c.fact 7 (f := .glo "over_f") rfl)) hb (all X G c hb d)
    | 5, h => by cases h; obtain ⟨fd, F⟩ := c.def_ 5 (d := Hd.mkD ("sum_f", none) "sum_f" "sum_f" (Hd.top 10)) rfl; exact st5 F (He.glo_ok X G (c.fact 8 (f := .glo "sum_f") rfl)) hb (all X G c hb d)
    | 6, h => by cases h; obtain ⟨fd, F⟩ := c.def_ 6 (d := Hd.mkD ("is_fraction", none) "is_fraction" "is_fraction" (Hd.top 11)) rfl; exact st6 F (He.glo_ok X G (c.fact 9 (f := .glo "is_fraction") rfl)) hb (all X G c hb d)
    | 7, h => by cases h; obtain ⟨fd, F⟩ := c.def_ 7 (d := Hd.mkD ("is_row_of_f", none) "is_row_of_f" "is_row_of_f" (Hd.top 13)) rfl; exact st7 F (He.glo_ok X G (c.fact 10 (f := .glo "is_row_of_f") rfl)) hb (all X G c hb d)
    | 8, h => by cases h; obtain ⟨fd, F⟩ := c.def_ 8 (d := Hd.mkD ("is_table", none) "is_table" "is_table" (Hd.top 14)) rfl; exact st8 F (He.glo_ok X G (c.fact 11 (f := .glo "is_table") rfl)) hb (all X G c hb d)
    | 9, h => by cases h; obtain ⟨fd, F⟩ := c.def_ 9 (d := Hd.mkD ("check_table", none) "check_table" "check_table" (Hd.top 15)) rfl; exact st9 F (He.glo_ok X G (c.fact 12 (f := .glo "check_table") rfl)) hb (all X G c hb d)
    | 10, h => by cases h; obtain ⟨fd, F⟩ := c.def_ 10 (d := Hd.mkD ("is_weights", none) "is_weights" "is_weights" (Hd.top 16)) rfl; exact st10 F (He.glo_ok X G (c.fact 13 (f := .glo "is_weights") rfl)) hb (all X G c hb d)
    | 11, h => by cases h; obtain ⟨fd, F⟩ := c.def_ 11 (d := Hd.mkD ("check_weights", none) "check_weights" "check_weights" (Hd.top 17)) rfl; exact st11 F (He.glo_ok X G (c.fact 14 (f := .glo "check_weights") rfl)) hb (all X G c hb d)
    | 12, h => by cases h; obtain ⟨fd, F⟩ := c.def_ 12 (d := Hd.mkD ("is_chances", none) "is_chances" "is_chances" (Hd.top 18)) rfl; exact st12 F (He.glo_ok X G (c.fact 15 (f := .glo "is_chances") rfl)) hb (all X G c hb d)
    | 13, h => by cases h; obtain ⟨fd, F⟩ := c.def_ 13 (d := Hd.mkD ("is_kernel", none) "is_kernel" "is_kernel" (Hd.top 19)) rfl; exact st13 F (He.glo_ok X G (c.fact 16 (f := .glo "is_kernel") rfl)) hb (all X G c hb d)
    | 14, h => by cases h; obtain ⟨fd, F⟩ := c.def_ 14 (d := Hd.mkD ("check_kernel", none) "check_kernel" "check_kernel" (Hd.top 20)) rfl; exact st14 F (He.glo_ok X G (c.fact 17 (f := .glo "check_kernel") rfl)) hb (all X G c hb d)
    | 15, h => by cases h; obtain ⟨fd, F⟩ := c.def_ 15 (d := Hd.mkD ("row_sums", none) "row_sums" "row_sums" (Hd.top 21)) rfl; exact st15 F (He.glo_ok X G (c.fact 18 (f := .glo "row_sums") rfl)) hb (all X G c hb d)
    | 16, h => by cases h; obtain ⟨fd, F⟩ := c.def_ 16 (d := Hd.mkD ("column_sums", none) "column_sums" "column_sums" (Hd.top 22)) rfl; exact st16 F (He.glo_ok X G (c.fact 19 (f := .glo "column_sums") rfl)) hb (all X G c hb d)
    | 17, h => by cases h; obtain ⟨fd, F⟩ := c.def_ 17 (d := Hd.mkD ("is_coupling", none) "is_coupling" "is_coupling" (Hd.top 23)) rfl; exact st17 F (He.glo_ok X G (c.fact 20 (f := .glo "is_coupling") rfl)) hb (all X G c hb d)
    | 18, h => by cases h; obtain ⟨fd, F⟩ := c.def_ 18 (d := Hd.mkD ("check_like_sums", none) "check_like_sums" "check_like_sums" (Hd.top 24)) rfl; exact st18 F (He.glo_ok X G (c.fact 21 (f := .glo "check_like_sums") rfl)) hb (all X G c hb d)
    | 19, h => by cases h; obtain ⟨fd, F⟩ := c.def_ 19 (d := Hd.mkD ("turned_table", none) "turned_table" "turned_table" (Hd.top 25)) rfl; exact st19 F (He.glo_ok X G (c.fact 22 (f := .glo "turned_table") rfl)) hb (all X G c hb d)
    | 20, h => by cases h; obtain ⟨fd, F⟩ := c.def_ 20 (d := Hd.mkD ("times_table", none) "times_table" "times_table" (Hd.top 26)) rfl; exact st20 F (He.glo_ok X G (c.fact 23 (f := .glo "times_table") rfl)) hb (all X G c hb d)
    | 21, h => by cases h; obtain ⟨fd, F⟩ := c.def_ 21 (d := Hd.mkD ("times_row", none) "times_row" "times_row" (Hd.top 27)) rfl; exact st21 F (He.glo_ok X G (c.fact 24 (f := .glo "times_row") rfl)) hb (all X G c hb d)
    | 22, h => by cases h; obtain ⟨fd, F⟩ := c.def_ 22 (d := Hd.mkD ("dot_f", none) "dot_f" "dot_f" (Hd.top 28)) rfl; exact st22 F (He.glo_ok X G (c.fact 25 (f := .glo "dot_f") rfl)) hb (all X G c hb d)
    | 23, h => by cases h; obtain ⟨fd, F⟩ := c.def_ 23 (d := Hd.mkD ("dot_table", none) "dot_table" "dot_table" (Hd.top 29)) rfl; exact st23 F (He.glo_ok X G (c.fact 26 (f := .glo "dot_table") rfl)) hb (all X G c hb d)
    | 24, h => by cases h; obtain ⟨fd, F⟩ := c.def_ 24 (d := Hd.mkD ("plain_kernel", none) "plain_kernel" "plain_kernel" (Hd.top 30)) rfl; exact st24 F (He.glo_ok X G (c.fact 27 (f := .glo "plain_kernel") rfl)) hb (all X G c hb d)
    | 25, h => by cases h; obtain ⟨fd, F⟩ := c.def_ 25 (d := Hd.mkD ("even_kernel", none) "even_kernel" "even_kernel" (Hd.top 31)) rfl; exact st25 F (He.glo_ok X G (c.fact 28 (f := .glo "even_kernel") rfl)) hb (all X G c hb d)
    | 26, h => by cases h; obtain ⟨fd, F⟩ := c.def_ 26 (d := Hd.mkD ("kernel_power", none) "kernel_power" "kernel_power" (Hd.top 32)) rfl; exact st26 F (He.glo_ok X G (c.fact 29 (f := .glo "kernel_power") rfl)) hb (all X G c hb d)
    | 27, h => by cases h; obtain ⟨fd, F⟩ := c.def_ 27 (d := Hd.mkD ("apart_coupling", none) "apart_coupling" "apart_coupling" (Hd.top 33)) rfl; exact st27 F (He.glo_ok X G (c.fact 30 (f := .glo "apart_coupling") rfl)) hb (all X G c hb d)
    | 28, h => by cases h; obtain ⟨fd, F⟩ := c.def_ 28 (d := Hd.mkD ("corner_coupling", none) "corner_coupling" "corner_coupling" (Hd.top 34)) rfl; exact st28 F (He.glo_ok X G (c.fact 31 (f := .glo "corner_coupling") rfl)) hb (all X G c hb d)
    | 29, h => by cases h; obtain ⟨fd, F⟩ := c.def_ 29 (d := Hd.mkD ("kernel_of", none) "kernel_of" "kernel_of" (Hd.top 35)) rfl; exact st29 F (He.glo_ok X G (c.fact 32 (f := .glo "kernel_of") rfl)) hb (all X G c hb d)
    | 30, h => by cases h; obtain ⟨fd, F⟩ := c.def_ 30 (d := Hd.mkD ("coupling_of", none) "coupling_of" "coupling_of" (Hd.top 36)) rfl; exact st30 F (He.glo_ok X G (c.fact 33 (f := .glo "coupling_of") rfl)) hb (all X G c hb d)
    | 31, h => by cases h; obtain ⟨fd, F⟩ := c.def_ 31 (d := Hd.mkD ("places_used", none) "places_used" "places_used" (Hd.top 37)) rfl; exact st31 F (He.glo_ok X G (c.fact 34 (f := .glo "places_used") rfl)) hb (all X G c hb d)
    | 32, h => by cases h; obtain ⟨fd, F⟩ := c.def_ 32 (d := Hd.mkD ("plus_table", none) "plus_table" "plus_table" (Hd.top 38)) rfl; exact st32 F (He.glo_ok X G (c.fact 35 (f := .glo "plus_table") rfl)) hb (all X G c hb d)
    | 33, h => by cases h; obtain ⟨fd, F⟩ := c.def_ 33 (d := Hd.mkD ("scaled_table", none) "scaled_table" "scaled_table" (Hd.top 39)) rfl; exact st33 F (He.glo_ok X G (c.fact 36 (f := .glo "scaled_table") rfl)) hb (all X G c hb d)
    | 34, h => by cases h; obtain ⟨fd, F⟩ := c.def_ 34 (d := Hd.mkD ("_law_next", none) "_law_next" "_law_next" (Hd.top 41)) rfl; exact st34 F (He.glo_ok X G (c.fact 37 (f := .glo "_law_next") rfl)) hb (all X G c hb d)
    | 35, h => by cases h; obtain ⟨fd, F⟩ := c.def_ 35 (d := Hd.mkD ("_law_same", none) "_law_same" "_law_same" (Hd.top 42)) rfl; exact st35 F (He.glo_ok X G (c.fact 38 (f := .glo "_law_same") rfl)) hb (all X G c hb d)
    | 36, h => by cases h; obtain ⟨fd, F⟩ := c.def_ 36 (d := Hd.mkD ("_law_least", none) "_law_least" "_law_least" (Hd.top 43)) rfl; exact st36 F (He.glo_ok X G (c.fact 39 (f := .glo "_law_least") rfl)) hb (all X G c hb d)
    | 37, h => by cases h; obtain ⟨fd, F⟩ := c.def_ 37 (d := Hd.mkD ("_law_plus", none) "_law_plus" "_law_plus" (Hd.top 44)) rfl; exact st37 F (He.glo_ok X G (c.fact 40 (f := .glo "_law_plus") rfl)) hb (all X G c hb d)
    | 38, h => by cases h; obtain ⟨fd, F⟩ := c.def_ 38 (d := Hd.mkD ("_law_less", none) "_law_less" "_law_less" (Hd.top 45)) rfl; exact st38 F (He.glo_ok X G (c.fact 41 (f := .glo "_law_less") rfl)) hb (all X G c hb d)
    | 39, h => by cases h; obtain ⟨fd, F⟩ := c.def_ 39 (d := Hd.mkD ("_law_minus", none) "_law_minus" "_law_minus" (Hd.top 46)) rfl; exact st39 F (He.glo_ok X G (c.fact 42 (f := .glo "_law_minus") rfl)) hb (all X G c hb d)
    | 40, h => by cases h; obtain ⟨fd, F⟩ := c.def_ 40 (d := Hd.mkD ("_law_times", none) "_law_times" "_law_times" (Hd.top 47)) rfl; exact st40 F (He.glo_ok X G (c.fact 43 (f := .glo "_law_times") rfl)) hb (all X G c hb d)
    | 41, h => by cases h; obtain ⟨fd, F⟩ := c.def_ 41 (d := Hd.mkD ("_law_total", none) "_law_total" "_law_total" (Hd.top 48)) rfl; exact st41 F (He.glo_ok X G (c.fact 44 (f := .glo "_law_total") rfl)) hb (all X G c hb d)
    | 42, h => by cases h; obtain ⟨fd, F⟩ := c.def_ 42 (d := Hd.mkD ("_law_row", none) "_law_row" "_law_row" (Hd.top 49)) rfl; exact st42 F (He.glo_ok X G (c.fact 45 (f := .glo "_law_row") rfl)) hb (all X G c hb d)
    | 43, h => by cases h; obtain ⟨fd, F⟩ := c.def_ 43 (d := Hd.mkD ("_law_pairs", none) "_law_pairs" "_law_pairs" (Hd.top 50)) rfl; exact st43 F (He.glo_ok X G (c.fact 46 (f := .glo "_law_pairs") rfl)) hb (all X G c hb d)
    | 44, h => by cases h; obtain ⟨fd, F⟩ := c.def_ 44 (d := Hd.mkD ("_law_over", none) "_law_over" "_law_over" (Hd.top 51)) rfl; exact st44 F (He.glo_ok X G (c.fact 47 (f := .glo "_law_over") rfl)) hb (all X G c hb d)
    | 45, h => by cases h; obtain ⟨fd, F⟩ := c.def_ 45 (d := Hd.mkD ("_law_up", none) "_law_up" "_law_up" (Hd.top 52)) rfl; exact st45 F (He.glo_ok X G (c.fact 48 (f := .glo "_law_up") rfl)) hb (all X G c hb d)
    | 46, h => by cases h; obtain ⟨fd, F⟩ := c.def_ 46 (d := Hd.mkD ("_law_mean", none) "_law_mean" "_law_mean" (Hd.top 53)) rfl; exact st46 F (He.glo_ok X G (c.fact 49 (f := .glo "_law_mean") rfl)) hb (all X G c hb d)
    | 47, h => by cases h; obtain ⟨fd, F⟩ := c.def_ 47 (d := Hd.mkD ("_law_marks", none) "_law_marks" "_law_marks" (Hd.top 54)) rfl; exact st47 F (He.glo_ok X G (c.fact 50 (f := .glo "_law_marks") rfl)) hb (all X G c hb d)
    | 48, h => by cases h; obtain ⟨fd, F⟩ := c.def_ 48 (d := Hd.mkD ("_law_table", none) "_law_table" "_law_table" (Hd.top 55)) rfl; exact st48 F (He.glo_ok X G (c.fact 51 (f := .glo "_law_table") rfl)) hb (all X G c hb d)
    | 49, h => by cases h; obtain ⟨fd, F⟩ := c.def_ 49 (d := Hd.mkD ("_law_product", none) "_law_product" "_law_product" (Hd.top 56)) rfl; exact st49 F (He.glo_ok X G (c.fact 52 (f := .glo "_law_product") rfl)) hb (all X G c hb d)
    | 50, h => by cases h; obtain ⟨fd, F⟩ := c.def_ 50 (d := Hd.mkD ("_law_corner", none) "_law_corner" "_law_corner" (Hd.top 57)) rfl; exact st50 F (He.glo_ok X G (c.fact 53 (f := .glo "_law_corner") rfl)) hb (all X G c hb d)
    | 51, h => by cases h; obtain ⟨fd, F⟩ := c.def_ 51 (d := Hd.mkD ("_law_is", none) "_law_is" "_law_is" (Hd.top 58)) rfl; exact st51 F (He.glo_ok X G (c.fact 54 (f := .glo "_law_is") rfl)) hb (all X G c hb d)
    | 52, h => by cases h; obtain ⟨fd, F⟩ := c.def_ 52 (d := Hd.mkD ("_law_good", none) "_law_good" "_law_good" (Hd.top 59)) rfl; exact st52 F (He.glo_ok X G (c.fact 55 (f := .glo "_law_good") rfl)) hb (all X G c hb d)
    | 53, h => by cases h; obtain ⟨fd, F⟩ := c.def_ 53 (d := Hd.mkD ("_law_bent", none) "_law_bent" "_law_bent" (Hd.top 60)) rfl; exact st53 F (He.glo_ok X G (c.fact 56 (f := .glo "_law_bent") rfl)) hb (all X G c hb d)
    | 54, h => by cases h; obtain ⟨fd, F⟩ := c.def_ 54 (d := Hd.mkD ("law", none) "law" "law" (Hd.top 61)) rfl; exact st54 F (He.glo_ok X G (c.fact 57 (f := .glo "law") rfl)) hb (all X G c hb d)
    | j + 55, h => by cases h
theorem bn_ok {h : Heap} (X : K.In h) (G : h.Ns mainGlobals mg) (c : He.SaysD Hd.fa Hd.fn K) : ∀ x ∈ bn, mg x = none := by
  intro x hx
  simp only [bn, List.mem_cons, List.not_mem_nil, or_false] at hx
  rcases hx with rfl | rfl | rfl | rfl | rfl | rfl | rfl | rfl | rfl | rfl | rfl | rfl
  · exact He.free_ok X G (c.fact 58 (f := .free "abs") rfl)
  · exact He.free_ok X G (c.fact 59 (f := .free "all") rfl)
  · exact He.free_ok X G (c.fact 60 (f := .free "bool") rfl)
  · exact He.free_ok X G (c.fact 61 (f := .free "int") rfl)
  · exact He.free_ok X G (c.fact 62 (f := .free "isinstance") rfl)
  · exact He.free_ok X G (c.fact 63 (f := .free "len") rfl)
  · exact He.free_ok X G (c.fact 64 (f := .free "list") rfl)
  · exact He.free_ok X G (c.fact 65 (f := .free "range") rfl)
  · exact He.free_ok X G (c.fact 66 (f := .free "str") rfl)
  · exact He.free_ok X G (c.fact 67 (f := .free "sum") rfl)
  · exact He.free_ok X G (c.fact 68 (f := .free "tuple") rfl)
  · exact He.free_ok X G (c.fact 69 (f := .free "zip") rfl)
theorem law_ok {d : Nat} {fa : Addr} {fd : FuncData} (IH : ∀ (j : Nat) (i : FnI), fns[j]? = some i → FnHas0 (Yp K) P w K mg base d i (call d j)) (F : FunD K "law" "law" (defArgs (Hd.top 61)) (defBody (Hd.top 61)) (defScope (Hd.top 61)) [] [] fa fd) (hb : ∀ x ∈ bn, mg x = none) : FnOk P w K mg base (L2.CX P w) (d + 1) fa fd ["script"] (spOf (Yp K) false 1 (call (d + 1) 54)) :=
  fn_ok (c := ck54) F sc54 rfl rfl rfl (by decide) IH hb ch54
end
end Pg
set_option Elab.async false
set_option linter.all false
set_option maxRecDepth 100000
set_option maxHeartbeats 0
namespace Pg
open Iv
theorem c0 (d : Nat) : call (d + 1) 0 = run (cn d false) 5 b0 := funext fun _ => rfl
theorem f0 (d : Nat) (h : 1 ≤ d) : IsMade (call d 0) := by
  obtain ⟨d, rfl⟩ : ∃ e, d = e + 1 := ⟨d - 1, by omega⟩
  rw [c0]
  exact made_is (C := cn d false) rfl
theorem c1 (d : Nat) : call (d + 1) 1 = run (cn d false) 2 b1 := funext fun _ => rfl
theorem f1 (d : Nat) (h : 2 ≤ d) : IsPlus (call d 1) := by
  obtain ⟨d, rfl⟩ : ∃ e, d = e + 1 := ⟨d - 1, by omega⟩
  rw [c1]
  exact plus_is (C := cn d false) rfl (f0 d (by omega))
theorem c2 (d : Nat) : call (d + 1) 2 = run (cn d false) 2 b2 := funext fun _ => rfl
theorem f2 (d : Nat) (h : 2 ≤ d) : IsMinus (call d 2) := by
  obtain ⟨d, rfl⟩ : ∃ e, d = e + 1 := ⟨d - 1, by omega⟩
  rw [c2]
  exact minus_is (C := cn d false) rfl (f0 d (by omega))
theorem c3 (d : Nat) : call (d + 1) 3 = run (cn d false) 2 b3 := funext fun _ => rfl
theorem f3 (d : Nat) (h : 2 ≤ d) : IsTimes (call d 3) := by
  obtain ⟨d, rfl⟩ : ∃ e, d = e + 1 := ⟨d - 1, by omega⟩
  rw [c3]
  exact times_is (C := cn d false) rfl (f0 d (by omega))
theorem c4 (d : Nat) : call (d + 1) 4 = run (cn d false) 2 b4 := funext fun _ => rfl
theorem f4 (d : Nat) (h : 2 ≤ d) : IsOver (call d 4) := by
  obtain ⟨d, rfl⟩ : ∃ e, d = e + 1 := ⟨d - 1, by omega⟩
  rw [c4]
  exact over_is (C := cn d false) rfl (f0 d (by omega))
theorem c5 (d : Nat) : call (d + 1) 5 = run (cn d false) 3 b5 := funext fun _ => rfl
theorem f5 (d : Nat) (h : 3 ≤ d) : IsSum (call d 5) := by
  obtain ⟨d, rfl⟩ : ∃ e, d = e + 1 := ⟨d - 1, by omega⟩
  rw [c5]
  exact sum_is (C := cn d false) rfl (f1 d (by omega))
theorem c6 (d : Nat) : call (d + 1) 6 = run (cn d false) 2 b6 := funext fun _ => rfl
theorem f6 (d : Nat) (h : 2 ≤ d) : IsFrac (call d 6) := by
  obtain ⟨d, rfl⟩ : ∃ e, d = e + 1 := ⟨d - 1, by omega⟩
  rw [c6]
  exact frac_is (C := cn d false) rfl (f0 d (by omega))
theorem c7 (d : Nat) : call (d + 1) 7 = run (cn d false) 2 b7 := funext fun _ => rfl
theorem f7 (d : Nat) (h : 3 ≤ d) : IsP 60 rowB (call d 7) := by
  obtain ⟨d, rfl⟩ : ∃ e, d = e + 1 := ⟨d - 1, by omega⟩
  rw [c7]
  exact row_is (C := cn d false) rfl (fun t ht => f6 d (by omega) t (ht.1.mono (by decide)))
theorem c8 (d : Nat) : call (d + 1) 8 = run (cn d false) 2 b8 := funext fun _ => rfl
theorem f8 (d : Nat) (h : 4 ≤ d) : IsP 59 tabB (call d 8) := by
  obtain ⟨d, rfl⟩ : ∃ e, d = e + 1 := ⟨d - 1, by omega⟩
  rw [c8]
  exact table_is (C := cn d false) rfl (fun t ht => f7 d (by omega) t (ht.mono (by decide)))
theorem c9 (d : Nat) : call (d + 1) 9 = run (cn d false) 1 b9 := funext fun _ => rfl
theorem f9 (d : Nat) (h : 5 ≤ d) : LetsT (call d 9) := by
  obtain ⟨d, rfl⟩ : ∃ e, d = e + 1 := ⟨d - 1, by omega⟩
  rw [c9]
  exact chkt_is (C := cn d false) rfl (f8 d (by omega))
theorem c10 (d : Nat) : call (d + 1) 10 = run (cn d false) 2 b10 := funext fun _ => rfl
theorem f10 (d : Nat) (h : 4 ≤ d) : IsP 60 wtB (call d 10) := by
  obtain ⟨d, rfl⟩ : ∃ e, d = e + 1 := ⟨d - 1, by omega⟩
  rw [c10]
  exact weights_is (C := cn d false) rfl (f7 d (by omega))
theorem c11 (d : Nat) : call (d + 1) 11 = run (cn d false) 1 b11 := funext fun _ => rfl
theorem f11 (d : Nat) (h : 5 ≤ d) : IsChkW (call d 11) := by
  obtain ⟨d, rfl⟩ : ∃ e, d = e + 1 := ⟨d - 1, by omega⟩
  rw [c11]
  exact chkw_is (C := cn d false) rfl (f10 d (by omega))
theorem c12 (d : Nat) : call (d + 1) 12 = run (cn d false) 1 b12 := funext fun _ => rfl
theorem f12 (d : Nat) (h : 5 ≤ d) : IsCh (call d 12) := by
  obtain ⟨d, rfl⟩ : ∃ e, d = e + 1 := ⟨d - 1, by omega⟩
  rw [c12]
  exact chances_is (C := cn d false) rfl (f10 d (by omega)) (f5 d (by omega))
theorem c13 (d : Nat) : call (d + 1) 13 = run (cn d false) 2 b13 := funext fun _ => rfl
theorem f13 (d : Nat) (h : 6 ≤ d) : IsKn (call d 13) := by
  obtain ⟨d, rfl⟩ : ∃ e, d = e + 1 := ⟨d - 1, by omega⟩
  rw [c13]
  exact kernel_is (C := cn d false) rfl (f8 d (by omega)) (f12 d (by omega))
theorem c14 (d : Nat) : call (d + 1) 14 = run (cn d false) 2 b14 := funext fun _ => rfl
theorem f14 (d : Nat) (h : 6 ≤ d) : LetsK (call d 14) := by
  obtain ⟨d, rfl⟩ : ∃ e, d = e + 1 := ⟨d - 1, by omega⟩
  rw [c14]
  exact chkk_is (C := cn d false) rfl (f9 d (by omega)) (f12 d (by omega))
theorem c15 (d : Nat) : call (d + 1) 15 = run (cn d false) 2 b15 := funext fun _ => rfl
theorem f15 (d : Nat) (h : 4 ≤ d) : IsRowSums (call d 15) := by
  obtain ⟨d, rfl⟩ : ∃ e, d = e + 1 := ⟨d - 1, by omega⟩
  rw [c15]
  exact rowsums_is (C := cn d false) rfl (f5 d (by omega))
theorem c16 (d : Nat) : call (d + 1) 16 = run (cn d false) 4 b16 := funext fun _ => rfl
theorem f16 (d : Nat) (h : 4 ≤ d) : IsColSums (call d 16) := by
  obtain ⟨d, rfl⟩ : ∃ e, d = e + 1 := ⟨d - 1, by omega⟩
  rw [c16]
  exact colsums_is (C := cn d false) rfl (f5 d (by omega))
theorem c17 (d : Nat) : call (d + 1) 17 = run (cn d false) 5 b17 := funext fun _ => rfl
theorem f17 (d : Nat) (h : 5 ≤ d) : IsCp (call d 17) := by
  obtain ⟨d, rfl⟩ : ∃ e, d = e + 1 := ⟨d - 1, by omega⟩
  rw [c17]
  exact coupling_is (C := cn d false) rfl (f8 d (by omega)) (f15 d (by omega)) (f16 d (by omega))
theorem c18 (d : Nat) : call (d + 1) 18 = run (cn d false) 2 b18 := funext fun _ => rfl
theorem f18 (d : Nat) (h : 6 ≤ d) : IsLike (call d 18) := by
  obtain ⟨d, rfl⟩ : ∃ e, d = e + 1 := ⟨d - 1, by omega⟩
  rw [c18]
  exact like_is (C := cn d false) rfl (f11 d (by omega)) (f5 d (by omega))
theorem c19 (d : Nat) : call (d + 1) 19 = run (cn d false) 4 b19 := funext fun _ => rfl
theorem f19 (d : Nat) (h : 1 ≤ d) : IsTurned (call d 19) := by
  obtain ⟨d, rfl⟩ : ∃ e, d = e + 1 := ⟨d - 1, by omega⟩
  rw [c19]
  exact turned_is (C := cn d false) rfl
theorem c20 (d : Nat) : call (d + 1) 20 = run (cn d false) 7 b20 := funext fun _ => rfl
theorem f20 (d : Nat) (h : 4 ≤ d) : IsTT (call d 20) := by
  obtain ⟨d, rfl⟩ : ∃ e, d = e + 1 := ⟨d - 1, by omega⟩
  rw [c20]
  exact ttable_is (C := cn d false) rfl (f3 d (by omega)) (f5 d (by omega))
theorem c21 (d : Nat) : call (d + 1) 21 = run (cn d false) 2 b21 := funext fun _ => rfl
theorem f21 (d : Nat) (h : 5 ≤ d) : IsTR (call d 21) := by
  obtain ⟨d, rfl⟩ : ∃ e, d = e + 1 := ⟨d - 1, by omega⟩
  rw [c21]
  exact trow_is (C := cn d false) rfl (f20 d (by omega))
theorem c22 (d : Nat) : call (d + 1) 22 = run (cn d false) 3 b22 := funext fun _ => rfl
theorem f22 (d : Nat) (h : 4 ≤ d) : IsDot (call d 22) := by
  obtain ⟨d, rfl⟩ : ∃ e, d = e + 1 := ⟨d - 1, by omega⟩
  rw [c22]
  exact dot_is (C := cn d false) rfl (f3 d (by omega)) (f5 d (by omega))
theorem c23 (d : Nat) : call (d + 1) 23 = run (cn d false) 3 b23 := funext fun _ => rfl
theorem f23 (d : Nat) (h : 5 ≤ d) : IsDotT (call d 23) := by
  obtain ⟨d, rfl⟩ : ∃ e, d = e + 1 := ⟨d - 1, by omega⟩
  rw [c23]
  exact dott_is (C := cn d false) rfl (f22 d (by omega)) (f5 d (by omega))
theorem c24 (d : Nat) : call (d + 1) 24 = run (cn d false) 3 b24 := funext fun _ => rfl
theorem f24 (d : Nat) (h : 1 ≤ d) : IsPlain (call d 24) := by
  obtain ⟨d, rfl⟩ : ∃ e, d = e + 1 := ⟨d - 1, by omega⟩
  rw [c24]
  exact plain_is (C := cn d false) rfl
theorem c25 (d : Nat) : call (d + 1) 25 = run (cn d false) 2 b25 := funext fun _ => rfl
theorem f25 (d : Nat) (h : 2 ≤ d) : IsEven (call d 25) := by
  obtain ⟨d, rfl⟩ : ∃ e, d = e + 1 := ⟨d - 1, by omega⟩
  rw [c25]
  exact even_is (C := cn d false) rfl (f0 d (by omega))
theorem c26 (d : Nat) : call (d + 1) 26 = run (cn d false) 4 b26 := funext fun _ => rfl
theorem f26 (d : Nat) (h : 5 ≤ d) : IsKP (call d 26) := by
  obtain ⟨d, rfl⟩ : ∃ e, d = e + 1 := ⟨d - 1, by omega⟩
  rw [c26]
  exact power_is (C := cn d false) rfl (f24 d (by omega)) (f20 d (by omega))
theorem c27 (d : Nat) : call (d + 1) 27 = run (cn d false) 4 b27 := funext fun _ => rfl
theorem f27 (d : Nat) (h : 3 ≤ d) : IsOuter (call d 27) := by
  obtain ⟨d, rfl⟩ : ∃ e, d = e + 1 := ⟨d - 1, by omega⟩
  rw [c27]
  exact apart_is (C := cn d false) rfl (f3 d (by omega))
theorem c28 (d : Nat) : call (d + 1) 28 = run (cn d false) 11 b28 := funext fun _ => rfl
theorem f28 (d : Nat) (h : 7 ≤ d) : IsCorner (call d 28) := by
  obtain ⟨d, rfl⟩ : ∃ e, d = e + 1 := ⟨d - 1, by omega⟩
  rw [c28]
  exact corner_is (C := cn d false) rfl (f2 d (by omega)) (f18 d (by omega))
theorem c29 (d : Nat) : call (d + 1) 29 = run (cn d false) 6 b29 := funext fun _ => rfl
theorem f29 (d : Nat) (h : 4 ≤ d) : IsKerOf (call d 29) := by
  obtain ⟨d, rfl⟩ : ∃ e, d = e + 1 := ⟨d - 1, by omega⟩
  rw [c29]
  exact kerof_is (C := cn d false) rfl (f5 d (by omega)) (f4 d (by omega))
theorem c30 (d : Nat) : call (d + 1) 30 = run (cn d false) 4 b30 := funext fun _ => rfl
theorem f30 (d : Nat) (h : 3 ≤ d) : IsCoupOf (call d 30) := by
  obtain ⟨d, rfl⟩ : ∃ e, d = e + 1 := ⟨d - 1, by omega⟩
  rw [c30]
  exact coupof_is (C := cn d false) rfl (f3 d (by omega))
theorem c31 (d : Nat) : call (d + 1) 31 = run (cn d false) 3 b31 := funext fun _ => rfl
theorem f31 (d : Nat) (h : 1 ≤ d) : IsPlaces (call d 31) := by
  obtain ⟨d, rfl⟩ : ∃ e, d = e + 1 := ⟨d - 1, by omega⟩
  rw [c31]
  exact places_is (C := cn d false) rfl
theorem c32 (d : Nat) : call (d + 1) 32 = run (cn d false) 6 b32 := funext fun _ => rfl
theorem f32 (d : Nat) (h : 3 ≤ d) : IsSumT (call d 32) := by
  obtain ⟨d, rfl⟩ : ∃ e, d = e + 1 := ⟨d - 1, by omega⟩
  rw [c32]
  exact sumt_is (C := cn d false) rfl (f1 d (by omega))
theorem c33 (d : Nat) : call (d + 1) 33 = run (cn d false) 4 b33 := funext fun _ => rfl
theorem f33 (d : Nat) (h : 3 ≤ d) : IsScaled (call d 33) := by
  obtain ⟨d, rfl⟩ : ∃ e, d = e + 1 := ⟨d - 1, by omega⟩
  rw [c33]
  exact scaled_is (C := cn d false) rfl (f3 d (by omega))
theorem c34 (d : Nat) : call (d + 1) 34 = run (cn d true) 4 b34 := funext fun _ => rfl
theorem f34 (d : Nat) (h : 1 ≤ d) : IsNext (call d 34) := by
  obtain ⟨d, rfl⟩ : ∃ e, d = e + 1 := ⟨d - 1, by omega⟩
  rw [c34]
  exact next_is (C := cn d true) rfl
theorem c36 (d : Nat) : call (d + 1) 36 = run (cn d false) 4 b36 := funext fun _ => rfl
theorem f36 (d : Nat) (h : 1 ≤ d) : IsMade (call d 36) := by
  obtain ⟨d, rfl⟩ : ∃ e, d = e + 1 := ⟨d - 1, by omega⟩
  rw [c36]
  exact least_is (C := cn d false) rfl
theorem c37 (d : Nat) : call (d + 1) 37 = run (cn d false) 2 b37 := funext fun _ => rfl
theorem f37 (d : Nat) (h : 2 ≤ d) : IsPlus (call d 37) := by
  obtain ⟨d, rfl⟩ : ∃ e, d = e + 1 := ⟨d - 1, by omega⟩
  rw [c37]
  exact plus_is (C := cn d false) rfl (f36 d (by omega))
theorem c38 (d : Nat) : call (d + 1) 38 = run (cn d false) 2 b38 := funext fun _ => rfl
theorem f38 (d : Nat) (h : 1 ≤ d) : IsLess (call d 38) := by
  obtain ⟨d, rfl⟩ : ∃ e, d = e + 1 := ⟨d - 1, by omega⟩
  rw [c38]
  exact less_is (C := cn d false) rfl
theorem c39 (d : Nat) : call (d + 1) 39 = run (cn d false) 2 b39 := funext fun _ => rfl
theorem f39 (d : Nat) (h : 2 ≤ d) : IsMinus (call d 39) := by
  obtain ⟨d, rfl⟩ : ∃ e, d = e + 1 := ⟨d - 1, by omega⟩
  rw [c39]
  exact minus_is (C := cn d false) rfl (f36 d (by omega))
theorem c40 (d : Nat) : call (d + 1) 40 = run (cn d false) 2 b40 := funext fun _ => rfl
theorem f40 (d : Nat) (h : 2 ≤ d) : IsTimes (call d 40) := by
  obtain ⟨d, rfl⟩ : ∃ e, d = e + 1 := ⟨d - 1, by omega⟩
  rw [c40]
  exact times_is (C := cn d false) rfl (f36 d (by omega))
theorem c41 (d : Nat) : call (d + 1) 41 = run (cn d false) 3 b41 := funext fun _ => rfl
theorem f41 (d : Nat) (h : 3 ≤ d) : IsSum (call d 41) := by
  obtain ⟨d, rfl⟩ : ∃ e, d = e + 1 := ⟨d - 1, by omega⟩
  rw [c41]
  exact sum_is (C := cn d false) rfl (f37 d (by omega))
theorem c42 (d : Nat) : call (d + 1) 42 = run (cn d true) 5 b42 := funext fun _ => rfl
theorem f42 (d : Nat) (h : 2 ≤ d) : IsLRow (call d 42) := by
  obtain ⟨d, rfl⟩ : ∃ e, d = e + 1 := ⟨d - 1, by omega⟩
  rw [c42]
  exact lrow_is (C := cn d true) rfl (f34 d (by omega)) (f36 d (by omega))
theorem c48 (d : Nat) : call (d + 1) 48 = run (cn d true) 5 b48 := funext fun _ => rfl
theorem f48 (d : Nat) (h : 2 ≤ d) : IsLTab (call d 48) := by
  obtain ⟨d, rfl⟩ : ∃ e, d = e + 1 := ⟨d - 1, by omega⟩
  rw [c48]
  exact ltable_is (C := cn d true) rfl (f34 d (by omega)) (f36 d (by omega))
theorem c49 (d : Nat) : call (d + 1) 49 = run (cn d false) 7 b49 := funext fun _ => rfl
theorem f49 (d : Nat) (h : 4 ≤ d) : IsLP (call d 49) := by
  obtain ⟨d, rfl⟩ : ∃ e, d = e + 1 := ⟨d - 1, by omega⟩
  rw [c49]
  exact lproduct_is (C := cn d false) rfl (f40 d (by omega)) (f41 d (by omega))
theorem c50 (d : Nat) : call (d + 1) 50 = run (cn d false) 11 b50 := funext fun _ => rfl
theorem f50 (d : Nat) (h : 3 ≤ d) : IsLC (call d 50) := by
  obtain ⟨d, rfl⟩ : ∃ e, d = e + 1 := ⟨d - 1, by omega⟩
  rw [c50]
  exact lcorner_is (C := cn d false) rfl (f38 d (by omega)) (f37 d (by omega)) (f39 d (by omega))
theorem c52 (d : Nat) : call (d + 1) 52 = run (cn d false) 2 b52 := funext fun _ => rfl
theorem f52 (d : Nat) (h : 2 ≤ d) : IsFrac (call d 52) := by
  obtain ⟨d, rfl⟩ : ∃ e, d = e + 1 := ⟨d - 1, by omega⟩
  rw [c52]
  exact good_is (C := cn d false) rfl (f36 d (by omega))
theorem c51 (d : Nat) : call (d + 1) 51 = run (cn d false) 6 b51 := funext fun _ => rfl
theorem f51 (d : Nat) (h : 4 ≤ d) : IsCp (call d 51) := by
  obtain ⟨d, rfl⟩ : ∃ e, d = e + 1 := ⟨d - 1, by omega⟩
  rw [c51]
  exact lis_is (C := cn d false) rfl (f52 d (by omega)) (f41 d (by omega))
theorem c53 (d : Nat) : call (d + 1) 53 = run (cn d true) 6 b53 := funext fun _ => rfl
theorem f53 (d : Nat) (h : 2 ≤ d) : IsBent (call d 53) := by
  obtain ⟨d, rfl⟩ : ∃ e, d = e + 1 := ⟨d - 1, by omega⟩
  rw [c53]
  exact bent_is (C := cn d true) rfl (f34 d (by omega))
theorem c35 (d : Nat) : call (d + 1) 35 = run (cn d false) 3 b35 := funext fun _ => rfl
theorem f35 : ∀ (k d : Nat), k ≤ 30 → k + 1 ≤ d → SameTo k (call d 35)
  | 0, d, _, h => by
    obtain ⟨d, rfl⟩ : ∃ e, d = e + 1 := ⟨d - 1, by omega⟩
    rw [c35]
    exact same_0 (C := cn d false) (m := 35) rfl
  | k + 1, d, h1, h => by
    obtain ⟨d, rfl⟩ : ∃ e, d = e + 1 := ⟨d - 1, by omega⟩
    rw [c35]
    exact same_s (C := cn d false) (m := 35) rfl (by omega) (f35 k d (by omega) (by omega))
theorem k02 : K02 (cn 24 false) where
  io := rfl
  sm := f35 10 24 (by omega) (by omega)
  rof := f7 24 (by omega)
  ist := f8 24 (by omega)
  ct := f9 24 (by omega)
  isw := f10 24 (by omega)
  cw := f11 24 (by omega)
  ch := f12 24 (by omega)
  kn := f13 24 (by omega)
  ck := f14 24 (by omega)
  rs := f15 24 (by omega)
  cs := f16 24 (by omega)
  cp := f17 24 (by omega)
  tu := f19 24 (by omega)
  tt := f20 24 (by omega)
  tr := f21 24 (by omega)
  dt := f22 24 (by omega)
  dtt := f23 24 (by omega)
  pk := f24 24 (by omega)
  ek := f25 24 (by omega)
  kp := f26 24 (by omega)
  ap := f27 24 (by omega)
  cr := f28 24 (by omega)
  ko := f29 24 (by omega)
  co := f30 24 (by omega)
  pu := f31 24 (by omega)
  st := f32 24 (by omega)
  sc := f33 24 (by omega)
  nx := f34 24 (by omega)
  le := f36 24 (by omega)
  pl := f37 24 (by omega)
  ti := f40 24 (by omega)
  to := f41 24 (by omega)
  rw := f42 24 (by omega)
  tb := f48 24 (by omega)
  lp := f49 24 (by omega)
  lc := f50 24 (by omega)
  li := f51 24 (by omega)
  gd := f52 24 (by omega)
  be := f53 24 (by omega)
theorem law_true (ns : List Int) : ∃ i, call 25 54 [.scr ns] = .ok (.bl true) i := ⟨.non, law02 k02 ns⟩
end Pg
set_option maxHeartbeats 0
set_option maxRecDepth 100000
open PySem PySem.W PySem.Calls PyProof.Rows
theorem PySem.Challenge.cw_chancesmoved_k02_whole_tables_and_coupli_holds : PySem.Challenge.rw_chancesmoved_k02_whole_tables_and_coupli.Holds := by
  w_on; o_law
  refine HandSHeadRun.head_any (r := OpenLaw.row PySem.Challenge.rw_chancesmoved_k02_whole_tables_and_coupli) (q := view (OpenLaw.row PySem.Challenge.rw_chancesmoved_k02_whole_tables_and_coupli).prog [61]) (H := Hd.hk) (ob := Hd.ob) (M := 4000) (loose := Hd.loose) (d := HandSHeadRun.topDef (OpenLaw.row PySem.Challenge.rw_chancesmoved_k02_whole_tables_and_coupli).prog 61) (kwd := []) Hd.ob_eq
    (by kernel_rfl) (fun s => by kernel_rfl) Hd.run (by kernel_rfl) (by kernel_rfl) (by kernel_rfl) (by rfl) (by first | assumption | decide +kernel) (by decide +kernel) ⟨rfl, rfl, rfl, rfl, rfl, by decide +kernel⟩ ?hw ?hc
  case hw => w_witness2
  case hc =>
    refine L2.walk_ofE (l := PySem.Challenge.rw_chancesmoved_k02_whole_tables_and_coupli) (n := 63) (k := 25) (x := "script") (CX := Iv.CXA (PySem.Challenge.rw_chancesmoved_k02_whole_tables_and_coupli).prog) rfl (by decide) (by kernel_rfl) ⟨rfl, by decide, by decide⟩ ?F (fun _ _ _ _ z => Iv.cxa_no z)
    intro w mg fa h Y G hmg0
    obtain ⟨K, KX, c⟩ := Y
    have hmg : mg ("law" : PySem.Str) = some (.ref fa) := by
      have e : (HandSHeadRun.topDef (OpenLaw.row PySem.Challenge.rw_chancesmoved_k02_whole_tables_and_coupli).prog 61).name = ("law" : PySem.Str) := by kernel_rfl
      rw [← e]
      exact hmg0
    obtain ⟨fd, F⟩ := c.def_ 54 (d := Hd.mkD ("law", none) "law" "law" (Hd.top 61)) rfl
    have e := hmg.symm.trans (He.glo_ok KX G (c.fact 57 (f := .glo "law") rfl))
    cases e
    have b := L2.FunD.bindsA (ps := ["script"]) F fun _ _ _ _ _ _ us hl => match us, hl with | [_], _ => rfl
    refine ⟨K, fd, Iv.spOf (Pg.Yp K) false 1 (Pg.call 25 54), KX, fun s v => b s [v] rfl, fun H a ns hl hO hS => Iv.law_sp (Y := Pg.Yp K) hO hS (Pg.law_true ns), fun base KB GB => ?_⟩
    have hall := Pg.all (P := (PySem.Challenge.rw_chancesmoved_k02_whole_tables_and_coupli).prog) (w := w) KB GB c (Pg.bn_ok KB GB c) 24
    exact Iv.FnOk.cxa (Pg.law_ok hall F (Pg.bn_ok KB GB c))
