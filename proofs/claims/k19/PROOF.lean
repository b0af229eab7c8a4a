import PyProof.Rows.All
import PySem.Challenge.RW_fullbelts_k19_machines_judged
import Wide.All
import OpenK.AllK
import Wide.FinOn
import HandS.ForMost
import HandS.ForExc
import HandS.IsInst
import HandS.Deep
import HandS.TupMul
import HandS.TupAny
import HandS.CallSlots
import HandS.Zip
import HandS.Property
import HandS.TryMany
import HandS.Defaults
import HandS.WordsExc
import HandS.HeadHook2
import HandS.HeadEnd
import HandS.Head0
import HandS.Head1
import HandS.Head2
import HandS.HeadHook1
set_option Elab.async false
set_option linter.all false
set_option maxRecDepth 100000
set_option maxHeartbeats 4000000
/-! the small machine: values as trees, an evaluator over trees -/
namespace AM
open PySem

inductive D where
  | non | bl (b : Bool) | int (i : Int) | str (x : Str)
  | tup (ds : List D) | lst (ds : List D)
  | dic (kvs : List (D × D))
  | obj (c : Nat) (ns : List Str) (ds : List D)
  | cls (c : Nat) | ty (n : String)

/-- a slot's content: a value that stays, or a container that is the slot's own -/
inductive T where
  | d (d : D) | l (ds : List D) | m (kvs : List (D × D)) | o (c : Nat) (ds : List D)
def T.snap : T → D
  | .d x => x
  | .l ds => .lst ds
  | .m kvs => .dic kvs
  | .o c ds => .obj c [] ds
def T.own : T → Bool
  | .d _ => false
  | _ => true
abbrev Env := List (Option T)

/-- an error: its class, its fields -/
structure X where
  c : Nat
  ds : List D

inductive R (α : Type) where
  | ok (a : α) (env : Env) | ex (x : X) (env : Env) | no
def R.bind {α β : Type} (r : R α) (f : α → Env → R β) : R β :=
  match r with
  | .ok a env => f a env
  | .ex x env => .ex x env
  | .no => .no
theorem R.bind_ok {α β : Type} (a : α) (env : Env) (f : α → Env → R β) : (R.ok a env).bind f = f a env := rfl
theorem R.bind_ex {α β : Type} (x : X) (env : Env) (f : α → Env → R β) : (R.ex x env : R α).bind f = .ex x env := rfl
theorem R.bind_no {α β : Type} (f : α → Env → R β) : (R.no : R α).bind f = .no := rfl

inductive Fl where
  | nx | rt (t : T) | bk | ct

/-- the built-ins -/
inductive Bi where
  | len | list | tuple | all | any | sum | abs | int | min | max | isinstance
def Bi.name : Bi → String
  | .len => "len" | .list => "list" | .tuple => "tuple" | .all => "all" | .any => "any" | .sum => "sum" | .abs => "abs" | .int => "int" | .min => "min" | .max => "max" | .isinstance => "isinstance"
def Bi.val : Bi → Value
  | .list => .type "list" | .tuple => .type "tuple" | .int => .type "int"
  | b => .builtin b.name
/-- what is reckoned of values alone -/
inductive Prim where
  | bin (o : Operator) | cmp (o : CmpOp) | neg | ix | bi (n : Bi) | tup | lst | dic

mutual
inductive E where
  | cst (d : D) | var (i : Nat) | vw (i : Nat) | glob (x : Str)
  | prim (p : Prim) (es : Es) | sl (x : E) (lo hi : Oe)
  | and (a b : E) | or (a b : E) | not (a : E) | ife (c a b : E) | one (a : E) | tru (a : E)
  | chain (o1 o2 : CmpOp) (a b c : E)
  | call (f : Nat) (es : Es)
  | lc (own : List (Str × Nat)) (p : Pt) (it : It) (ifs : Oe) (e : E)
  | pop (i : Nat) (es : Es) | fld (e : E) (x : Str)
  | prop (c g : Nat) (x : Str) (e : E) | oeq (c g : Nat) (ne : Bool) (a b : E)
inductive Es where
  | nil | cons (e : E) (es : Es)
inductive Oe where
  | no | yes (e : E)
inductive It where
  | seq (e : E) | rng (es : Es) | enum (e : E) | zip (es : Es)
inductive Pt where
  | name (i : Nat) | tup (ps : Pts)
inductive Pts where
  | nil | cons (p : Pt) (ps : Pts)
end
mutual
inductive S where
  | set (i : Nat) (e : E) | unp (p : Pt) (e : E) | par (i j : Nat) (a b : E)
  | setIx (i : Nat) (k v : E) | aug (i : Nat) (o : Operator) (e : E)
  | exp (e : E) | app (i : Nat) (e : E)
  | ife (c : E) (a b : Ss) | fo (p : Pt) (it : It) (b : Ss) | wh (c : E) (b : Ss)
  | ret (e : E) | mov (i : Nat) | retN | brk | cnt | pass
  | rais (c : Nat) (es : Es)
  | tr (b : Ss) (hs : Hs)
  | frz (i : Nat)
inductive Ss where
  | nil | cons (s : S) (ss : Ss)
inductive Hs where
  | nil | cons (c : Nat) (i : Option Nat) (b : Ss) (hs : Hs)
end

/-! ### values -/
mutual
def D.toP : D → PyData
  | .non => .none
  | .bl b => .bool b
  | .int i => .int i
  | .str x => .str x
  | .tup ds => .tuple (toPs ds)
  | .lst ds => .list (toPs ds)
  | .dic _ => .dict []
  | .obj _ _ _ => .dict []
  | .cls _ => .dict []
  | .ty _ => .dict []
def toPs : List D → List PyData
  | [] => []
  | d :: ds => d.toP :: toPs ds
end
def D.isNon : D → Bool
  | .non => true
  | _ => false
def D.isBl : D → Bool
  | .bl _ => true
  | _ => false
def D.getBl : D → Bool
  | .bl b => b
  | _ => false
def D.isInt : D → Bool
  | .int _ => true
  | _ => false
def D.getInt : D → Int
  | .int i => i
  | _ => 0
def D.flat : D → Bool
  | .non => true | .bl _ => true | .int _ => true | .str _ => true
  | _ => false
/-- == of flat values -/
def eqFlat : D → D → Bool
  | .non, .non => true
  | .bl a, .bl b => a == b
  | .bl a, .int b => (if a then 1 else 0) == b
  | .int a, .bl b => a == (if b then 1 else 0)
  | .int a, .int b => a == b
  | .str a, .str b => a == b
  | _, _ => false
def eqF (d e : D) : Option Bool := if SeqAt.shaped d.toP && SeqAt.shaped e.toP then some (PyData.eqv d.toP e.toP) else none
def items : D → Option (List D)
  | .lst ds => some ds
  | .tup ds => some ds
  | _ => none
def binF : Operator → D → D → Option T
  | .Add, .int i, .int j => some (.d (.int (i + j)))
  | .Add, .str x, .str y => if x.length + y.length ≤ sizeLine then some (.d (.str (x ++ y))) else none
  | .Add, .tup a, .tup b => if a.length + b.length ≤ sizeLine then some (.d (.tup (a ++ b))) else none
  | .Add, .lst a, .lst b => if a.length + b.length ≤ sizeLine then some (.l (a ++ b)) else none
  | .Add, .int i, .bl k => some (.d (.int (i + (if k then 1 else 0))))
  | .Sub, .int i, .int j => some (.d (.int (i - j)))
  | .Mult, .int i, .int j => if (-(2 ^ 64) < i ∧ i < 2 ^ 64) ∨ (-(2 ^ 64) < j ∧ j < 2 ^ 64) then some (.d (.int (i * j))) else none
  | .Mult, .tup a, .int k => if a ≠ [] ∧ 2 ≤ k ∧ k ≤ 1000 ∧ a.length ≤ 1000 then some (.d (.tup (List.replicate k.toNat a).flatten)) else if k = 1 then some (.d (.tup a)) else none
  | .Mult, .lst a, .int k => if -(2 ^ 63) ≤ k ∧ k < 2 ^ 63 ∧ a.length * k.toNat ≤ sizeLine then some (.l (List.replicate k.toNat a).flatten) else none
  | .Mod, .int i, .int j => if 0 < j then some (.d (.int (i % j))) else none
  | .FloorDiv, .int i, .int j => if 0 < j ∧ j < 1073741824 then some (.d (.int (i / j))) else none
  | .Pow, .int i, .int j => if 0 ≤ j ∧ j ≤ 1000000 ∧ i.natAbs < 2 ^ 64 then some (.d (.int (i ^ j.toNat))) else none
  | _, _, _ => none
def inF (d : D) : D → Option Bool
  | .lst ds => if SeqAt.shaped d.toP && SeqAt.shaped (D.lst ds).toP then some (ds.any fun z => PyData.eqv z.toP d.toP) else none
  | .tup ds => if d.flat && ds.all D.flat then some (ds.any fun z => eqFlat z d) else none
  | _ => none
def cmpF : CmpOp → D → D → Option Bool
  | .Eq, d, e => eqF d e
  | .NotEq, d, e => (eqF d e).map (!·)
  | .Lt, .int i, .int j => some (decide (i < j))
  | .LtE, .int i, .int j => some (decide (i ≤ j))
  | .Gt, .int i, .int j => some (decide (j < i))
  | .GtE, .int i, .int j => some (decide (j ≤ i))
  | .Is, d, .non => some d.isNon
  | .IsNot, d, .non => some (!d.isNon)
  | .In, d, e => inF d e
  | .NotIn, d, e => (inF d e).map (!·)
  | _, _, _ => none
def ixF : D → D → Option D
  | .lst ds, .int i => L2.atI ds i
  | .tup ds, .int i => L2.atI ds i
  | .str z, .int i => if z.length ≤ sizeLine then (L2.atI z.cps.toList i).map fun c => .str ⟨#[c]⟩ else none
  | _, _ => none
def cutG {α : Type} (xs : List α) (lo hi : Option Int) : List α := (xs.drop (HT.sIx xs.length 0 lo)).take (HT.sIx xs.length xs.length hi - HT.sIx xs.length 0 lo)
def slF : D → Option Int → Option Int → Option T
  | .lst ds, lo, hi => some (.l (cutG ds lo hi))
  | .tup ds, lo, hi => some (.d (.tup (cutG ds lo hi)))
  | _, _, _ => none
def tagOf : D → Option String
  | .non => some "NoneType" | .bl _ => some "bool" | .int _ => some "int" | .str _ => some "str"
  | .tup _ => some "tuple" | .lst _ => some "list" | .dic _ => some "dict"
  | _ => none
def isiAny (g : String) : List D → Option Bool
  | [] => some false
  | .ty n :: r => (match L2.kitB g n with
    | some true => (isiAny g r).map fun _ => true
    | some false => isiAny g r
    | none => none)
  | _ :: _ => none
def biF : Bi → List D → Option T
  | .len, [.lst xs] => some (.d (.int xs.length))
  | .len, [.tup xs] => some (.d (.int xs.length))
  | .len, [.str z] => if z.length ≤ sizeLine then some (.d (.int z.length)) else none
  | .list, [.lst xs] => some (.l xs)
  | .list, [.tup xs] => some (.l xs)
  | .tuple, [.lst xs] => some (.d (.tup xs))
  | .tuple, [.tup xs] => some (.d (.tup xs))
  | .all, [.lst xs] => if xs.all D.isBl then some (.d (.bl (xs.all D.getBl))) else none
  | .any, [.lst xs] => if xs.all D.isBl then some (.d (.bl (xs.any D.getBl))) else none
  | .sum, [.lst xs] => if xs.all D.isInt then some (.d (.int (xs.map D.getInt).sum)) else none
  | .sum, [.tup xs] => if xs.all D.isInt then some (.d (.int (xs.map D.getInt).sum)) else none
  | .abs, [.int i] => some (.d (.int (if i < 0 then -i else i)))
  | .int, [.int i] => some (.d (.int i))
  | .int, [.bl k] => some (.d (.int (if k then 1 else 0)))
  | .min, [.int i, .int j] => some (.d (.int (if j < i then j else i)))
  | .max, [.int i, .int j] => some (.d (.int (if j > i then j else i)))
  | .isinstance, [d, .ty t] => match tagOf d with
      | some g => (L2.kitB g t).map fun b => .d (.bl b)
      | none => none
  | .isinstance, [d, .cls c] => match d with
      | .obj c2 _ _ => if c2 = c then some (.d (.bl true)) else none
      | d => match tagOf d with
        | some _ => some (.d (.bl false))
        | none => none
  | .isinstance, [d, .tup ts] => match tagOf d with
      | some g => (isiAny g ts).map fun b => .d (.bl b)
      | none => none
  | _, _ => none
def primF : Prim → List D → Option T
  | .bin o, [a, b] => binF o a b
  | .cmp o, [a, b] => (cmpF o a b).map fun b => .d (.bl b)
  | .neg, [.int i] => some (.d (.int (-i)))
  | .ix, [a, b] => (ixF a b).map .d
  | .bi n, ds => biF n ds
  | .tup, ds => if ds.length ≤ sizeLine then some (.d (.tup ds)) else none
  | .lst, ds => if ds.length ≤ sizeLine then some (.l ds) else none
  | .dic, [] => some (.d (.dic []))
  | _, _ => none

/-! ### the evaluator -/
def Env.get (env : Env) (i : Nat) : Option T := env.getD i none
/-- the slots of own forgotten -/
def wipeE (env : Env) : List Nat → Env
  | [] => env
  | v :: vs => (wipeE env vs).set v none
/-- the slots of own as they were -/
def backE (env old : Env) : List Nat → Env
  | [] => env
  | v :: vs => (backE env old vs).set v (old.getD v none)
def ownIx (own : List (Str × Nat)) : List Nat := own.map fun p => p.2
mutual
def bindPt : Pt → D → Env → Option Env
  | .name i, d, env => if i < env.length then some (env.set i (some (.d d))) else none
  | .tup ps, .tup ds, env => bindPts ps ds env
  | .tup _, _, _ => none
def bindPts : Pts → List D → Env → Option Env
  | .nil, [], env => some env
  | .cons p ps, d :: ds, env => match bindPt p d env with
    | some env' => bindPts ps ds env'
    | none => none
  | _, _, _ => none
end
def truF : D → Option Bool
  | .bl b => some b
  | .int i => some (i != 0)
  | .non => some false
  | .lst ds => some (!ds.isEmpty)
  | .tup ds => some (!ds.isEmpty)
  | _ => none
def enumF (ds : List D) : List D := ds.zipIdx.map fun p => .tup [.int p.2, p.1]
def zipF (ds es : List D) : List D := (ds.zip es).map fun p => .tup [p.1, p.2]
def rngF : List D → Option (List D)
  | [.int j] => if -(2 ^ 62) ≤ j ∧ j < 2 ^ 62 then some ((List.range j.toNat).map fun (n : Nat) => .int n) else none
  | [.int i, .int j] => if -(2 ^ 62) ≤ i ∧ i < 2 ^ 62 ∧ -(2 ^ 62) ≤ j ∧ j < 2 ^ 62 then some ((List.range (j - i).toNat).map fun (n : Nat) => .int (i + n)) else none
  | _ => none
/-- over the items -/
def forL (b : D → Env → R Fl) : List D → Env → R Fl
  | [], env => .ok .nx env
  | d :: ds, env => (b d env).bind fun f env' => match f with
    | .nx => forL b ds env'
    | .ct => forL b ds env'
    | .bk => .ok .nx env'
    | .rt t => .ok (.rt t) env'
/-- no error may leave it -/
def R.noex {α : Type} (r : R α) : R α := match r with
  | .ex _ _ => .no
  | r => r
def lcL (b : D → Env → R (Option D)) : List D → List D → Env → R (List D)
  | [], acc, env => .ok acc env
  | d :: ds, acc, env => (b d env).noex.bind fun o env' => match o with
    | none => lcL b ds acc env'
    | some x => if acc.length < sizeLine then lcL b ds (acc ++ [x]) env' else .no
def whL (c : Env → R Bool) (b : Env → R Fl) : Nat → Env → R Fl
  | 0, _ => .no
  | n + 1, env => (c env).bind fun t env1 => match t with
    | false => .ok .nx env1
    | true => (b env1).bind fun f env2 => match f with
      | .nx => whL c b n env2
      | .ct => whL c b n env2
      | .bk => .ok .nx env2
      | .rt t => .ok (.rt t) env2
/-- how many turns a while may take here -/
def most : Nat := 2 ^ 60

/-- a field of an object -/
def fldF : D → Str → Option D
  | .obj _ ns ds, x => (ns.zip ds).lookup x
  | _, _ => none
/-- a def: how many parameters, how many slots, which parameters it changes, its body -/
structure Fn where
  np : Nat
  n : Nat
  io : List Nat
  body : Ss
  /-- a class's maker: its number, its fields behind the body -/
  obj : Option (Nat × List (Str × E)) := none
  /-- a method: runs two steps below -/
  low : Bool := false
/-- the surroundings: calls, module constants -/
structure Cl where
  call : Nat → List T → R T
  io : Nat → List Nat
  glob : Str → Option D

def slR (d : D) (lo hi : Option Int) (env : Env) : R T := match slF d lo hi with
  | some t => .ok t env
  | none => .no
def R.bl (r : R T) : R Bool := r.bind fun t env => match t with
  | .d (.bl b) => .ok b env
  | _ => .no
def R.opt {α β : Type} (o : Option α) (env : Env) (f : α → R β) : R β := match o with
  | some a => f a
  | none => .no
def T.atom : T → Bool
  | .d .non => true | .d (.bl _) => true | .d (.int _) => true | .d (.str _) => true
  | _ => false
/-- the arguments' slots behind a call: those of changed parameters hold what the call left there -/
def putOuts : List Nat → Env → List (Option Nat) → Env → Env
  | j :: io, o :: outs, sl, env => putOuts io outs sl (match sl.getD j none with
    | some i => env.set i o
    | none => env)
  | _, _, _, env => env
/-- arguments: for a changed parameter the slot, for another one a value -/
def slotOf : E → Option Nat
  | .vw i => some i
  | _ => none
def Es.slots : Es → List (Option Nat)
  | .nil => []
  | .cons e es => slotOf e :: es.slots
/-- the slots handed in for change are unlike ones, and no other slot is looked at -/
def ioOk (io : List Nat) (sl : List (Option Nat)) : Bool :=
  (io.all fun j => (sl.getD j none).isSome) && decide ((io.map fun j => sl.getD j none).Nodup) && (sl.zipIdx.all fun p => p.1.isNone || io.contains p.2)
def callK (C : Cl) (f : Nat) (sl : List (Option Nat)) (ts : List T) (env : Env) : R T :=
  match ioOk (C.io f) sl with
    | false => .no
    | true => match C.call f ts with
      | .ok t outs => .ok t (putOuts (C.io f) outs sl env)
      | .ex x outs => .ex x (putOuts (C.io f) outs sl env)
      | .no => .no
def Es.lk : Es → List Nat
  | .nil => []
  | .cons e es => match slotOf e with
    | some i => i :: es.lk
    | none => es.lk
/-- the slots that a walk looks at -/
def It.lk : It → List Nat
  | .seq e => (slotOf e).toList
  | .enum e => (slotOf e).toList
  | .zip es => es.lk
  | .rng _ => []
/-- an operand: what it is, looked at where it stands -/
def opd (sl : Option Nat) (f : Env → R T) (env : Env) : R D := match sl with
  | some i => (match env.getD i none with
    | some t => .ok t.snap env
    | none => .no)
  | none => (f env).bind fun t env' => .ok t.snap env'
/-- xs.pop(), xs.pop(k) of a slot's own list -/
def popR (i : Nat) (ds : List D) (env : Env) : R T := match env.getD i none, ds with
  | some (.l xs), [] => (match xs[xs.length - 1]? with
    | some y => .ok (.d y) (env.set i (some (.l xs.dropLast)))
    | none => .no)
  | some (.l xs), [.int k] => if -(2 ^ 63) ≤ k ∧ k < 2 ^ 63 then (match L2.ixN xs.length k with
    | some j => (match xs[j]? with
      | some y => .ok (.d y) (env.set i (some (.l (xs.eraseIdx j))))
      | none => .no)
    | none => .no) else .no
  | _, _ => .no
/-- xs.append(x) -/
def appR (i : Nat) (d : D) (env : Env) : R Fl := match env.getD i none with
  | some (.l xs) => if xs.length < sizeLine then .ok .nx (env.set i (some (.l (xs ++ [d])))) else .no
  | _ => .no
def isTup7 : D → Bool
  | .tup _ => true
  | _ => false
def isObj (c : Nat) : D → Bool
  | .obj c2 _ _ => c2 == c
  | _ => false
def noObj : D → Bool
  | .obj _ _ _ => false
  | _ => true
/-- a property, asked for -/
def propK (C : Cl) (c g : Nat) (d : D) (env : Env) : R T := if isObj c d = true then (match C.call g [.d d] with
  | .ok (.d y) [] => .ok (.d y) env
  | _ => .no) else .no
/-- the own ==, asked for -/
def askEq (C : Cl) (g : Nat) (ne : Bool) (x y : D) (env : Env) : R T := match C.call g [.d x, .d y] with
  | .ok (.d (.bl r)) [] => .ok (.d (.bl (r != ne))) env
  | _ => .no
def oeqK (C : Cl) (c g : Nat) (ne : Bool) (x y : D) (env : Env) : R T :=
  if isObj c x = true then (if isObj c y = true ∨ (tagOf y).isSome = true then askEq C g ne x y env else .no)
  else if isObj c y = true then (if isTup7 x = true ∧ ne = false then askEq C g false y x env else .no)
  else if noObj x = true ∧ noObj y = true then (match eqF x y with
    | some b => .ok (.d (.bl (b != ne))) env
    | none => .no)
  else .no
mutual
def evE (C : Cl) : E → Env → R T
  | .cst d, env => .ok (.d d) env
  | .glob x, env => match C.glob x with
    | some d => .ok (.d d) env
    | none => .no
  | .var i, env => match env.getD i none with
    | some (.d d) => .ok (.d d) env
    | _ => .no
  | .vw _, _ => .no
  | .prim p es, env => (evEs C es env).bind fun ds env' => match primF p ds with
    | some t => .ok t env'
    | none => .no
  | .sl x lo hi, env => (match slotOf x with
    | some i => (match env.getD i none with
      | some _ => (evP C lo env).bind fun l env1 => (evP C hi env1).bind fun h env2 => match env2.getD i none with
        | some t => slR t.snap l h env2
        | none => .no
      | none => .no)
    | none => (evE C x env).bind fun t env0 => (evP C lo env0).bind fun l env1 => (evP C hi env1).bind fun h env2 => slR t.snap l h env2)
  | .and a b, env => ((evE C a env).bl).bind fun c env' => match c with
    | true => evE C b env'
    | false => .ok (.d (.bl false)) env'
  | .or a b, env => ((evE C a env).bl).bind fun c env' => match c with
    | true => .ok (.d (.bl true)) env'
    | false => evE C b env'
  | .one a, env => evE C a env
  | .not a, env => ((evE C a env).bl).bind fun c env' => .ok (.d (.bl (!c))) env'
  | .tru a, env => (opd (slotOf a) (evE C a) env).bind fun d env' => match truF d with
    | some b => .ok (.d (.bl b)) env'
    | none => .no
  | .ife c a b, env => ((evE C c env).bl).bind fun k env' => match k with
    | true => evE C a env'
    | false => evE C b env'
  | .chain o1 o2 a b c, env => (evE C a env).bind fun x env1 => (evE C b env1).bind fun y env2 => match cmpF o1 x.snap y.snap with
    | some true => (evE C c env2).bind fun z env3 => match cmpF o2 y.snap z.snap with
      | some k => .ok (.d (.bl k)) env3
      | none => .no
    | some false => .ok (.d (.bl false)) env2
    | none => .no
  | .call f es, env => (evA C es env).bind fun ts env' => callK C f es.slots ts env'
  | .lc own p it ifs e, env => (evI C it env).bind fun ds env0 =>
    (lcL (fun d env1 => match bindPt p d env1 with
      | none => .no
      | some env2 => (evO C ifs env2).bind fun k env3 => match k with
          | false => .ok none (wipeE env3 (ownIx own))
          | true => (evE C e env3).bind fun t env4 => .ok (some t.snap) (wipeE env4 (ownIx own))) ds [] (wipeE env0 (ownIx own ++ it.lk))).bind
      fun out env9 => .ok (.l out) (backE env9 env0 (ownIx own ++ it.lk))
  | .pop i es, env => (match env.getD i none with
    | some (.l _) => (evEs C es env).bind fun ds env' => popR i ds env'
    | _ => .no)
  | .fld e x, env => (opd (slotOf e) (evE C e) env).bind fun d env' => match fldF d x with
    | some y => .ok (.d y) env'
    | none => .no
  | .prop c g _ e, env => (opd (slotOf e) (evE C e) env).bind fun d env' => propK C c g d env'
  | .oeq c g ne a b, env => (evE C a env).bind fun t env1 => (evE C b env1).bind fun u env2 => oeqK C c g ne t.snap u.snap env2
def evO (C : Cl) : Oe → Env → R Bool
  | .no, env => .ok true env
  | .yes c, env => (evE C c env).bl
def evP (C : Cl) : Oe → Env → R (Option Int)
  | .no, env => .ok none env
  | .yes c, env => (evE C c env).bind fun t env' => match t with
    | .d (.int i) => .ok (some i) env'
    | _ => .no
def evEs (C : Cl) : Es → Env → R (List D)
  | .nil, env => .ok [] env
  | .cons e es, env => match slotOf e with
    | some i => (match env.getD i none with
      | some _ => (evEs C es env).bind fun ds env' => match env'.getD i none with
        | some t => .ok (t.snap :: ds) env'
        | none => .no
      | none => .no)
    | none => (evE C e env).bind fun t env' => (evEs C es env').bind fun ds env'' => .ok (t.snap :: ds) env''
def evA (C : Cl) : Es → Env → R (List T)
  | .nil, env => .ok [] env
  | .cons e es, env => match slotOf e with
    | some i => (match env.getD i none with
      | some _ => (evA C es env).bind fun ds env' => match env'.getD i none with
        | some t => .ok (t :: ds) env'
        | none => .no
      | none => .no)
    | none => (evE C e env).bind fun t env' => (evA C es env').bind fun ds env'' => .ok (.d t.snap :: ds) env''
def evI (C : Cl) : It → Env → R (List D)
  | .seq e, env => (opd (slotOf e) (evE C e) env).bind fun d env' => match items d with
    | some ds => .ok ds env'
    | none => .no
  | .rng es, env => (evEs C es env).bind fun ds env' => match rngF ds with
    | some xs => .ok xs env'
    | none => .no
  | .enum e, env => (opd (slotOf e) (evE C e) env).bind fun d env' => match d with
    | .lst ds => .ok (enumF ds) env'
    | _ => .no
  | .zip es, env => (evEs C es env).bind fun ds env' => match ds with
    | [.lst xs, .lst ys] => .ok (zipF xs ys) env'
    | [.tup xs, .tup ys] => .ok (zipF xs ys) env'
    | _ => .no
end

/-! ### statements -/
def setS (i : Nat) (t : T) (env : Env) : R Fl := if i < env.length then .ok .nx (env.set i (some t)) else .no
mutual
def Pt.slots : Pt → List Nat
  | .name i => [i]
  | .tup ps => ps.slots
def Pts.slots : Pts → List Nat
  | .nil => []
  | .cons p ps => p.slots ++ ps.slots
end
/-- xs[k] = d -/
def putR (i : Nat) (k d : D) (env : Env) : R Fl := match env.getD i none, k with
  | some (.l xs), .int n => (match L2.ixN xs.length n with
    | some j => .ok .nx (env.set i (some (.l (xs.set j d))))
    | none => .no)
  | _, _ => .no
/-- x += d -/
def augR (i : Nat) (o : Operator) (x d : D) (env : Env) : R Fl := match o, x, d with
  | .Add, .int a, .int b => setS i (.d (.int (a + b))) env
  | .Sub, .int a, .int b => setS i (.d (.int (a - b))) env
  | _, _, _ => .no
mutual
/-- the slots that a statement stores anew -/
def S.asg : S → List Nat
  | .set i _ => [i]
  | .unp p _ => p.slots
  | .par i j _ _ => [i, j]
  | .aug i _ _ => [i]
  | .ife _ a b => a.asg ++ b.asg
  | .fo p _ b => p.slots ++ b.asg
  | .wh _ b => b.asg
  | .tr b hs => b.asg ++ hs.asg
  | _ => []
def Ss.asg : Ss → List Nat
  | .nil => []
  | .cons s ss => s.asg ++ ss.asg
def Hs.asg : Hs → List Nat
  | .nil => []
  | .cons _ i b hs => i.toList ++ b.asg ++ hs.asg
end
def apart (a b : List Nat) : Bool := a.all fun i => !b.contains i
structure Cls where
  isa : Nat → Nat → Bool
mutual
def evS (C : Cl) (isa : Nat → Nat → Bool) : S → Env → R Fl
  | .set i e, env => (evE C e env).bind fun t env' => setS i t env'
  | .unp p e, env => (evE C e env).bind fun t env' => match bindPt p t.snap env' with
    | some env2 => .ok .nx env2
    | none => .no
  | .par i j a b, env => (evE C a env).bind fun t env1 => (evE C b env1).bind fun u env2 => (setS i (.d t.snap) env2).bind fun _ env3 => setS j (.d u.snap) env3
  | .setIx i k v, env => (evE C v env).bind fun tv env1 => (match env1.getD i none with
    | some (.l _) => (evE C k env1).bind fun tk env2 => putR i tk.snap tv.snap env2
    | _ => .no)
  | .aug i o e, env => (match env.getD i none with
    | some (.d x) => (evE C e env).bind fun t env' => augR i o x t.snap env'
    | _ => .no)
  | .exp e, env => (evE C e env).bind fun _ env' => .ok .nx env'
  | .app i e, env => (match env.getD i none with
    | some (.l _) => (evE C e env).bind fun t env' => appR i t.snap env'
    | _ => .no)
  | .ife c a b, env => ((evE C c env).bl).bind fun k env' => match k with
    | true => evSs C isa a env'
    | false => evSs C isa b env'
  | .fo p it b, env => match apart it.lk (p.slots ++ b.asg) with
    | false => .no
    | true => (evI C it env).bind fun ds env0 =>
      (forL (fun d env1 => match bindPt p d env1 with
        | none => .no
        | some env2 => evSs C isa b env2) ds (wipeE env0 it.lk)).bind fun f env9 => match f with
          | .rt t => .ok (.rt t) (backE env9 env0 it.lk)
          | _ => .ok .nx (backE env9 env0 it.lk)
  | .wh c b, env => whL (fun env1 => (evE C c env1).bl) (fun env1 => evSs C isa b env1) most env
  | .ret e, env => (evE C e env).bind fun t env' => .ok (.rt t) env'
  | .mov i, env => match env.getD i none with
    | some t => .ok (.rt t) (env.set i none)
    | none => .no
  | .retN, env => .ok (.rt (.d .non)) env
  | .brk, env => .ok .bk env
  | .cnt, env => .ok .ct env
  | .pass, env => .ok .nx env
  | .rais c es, env => (evEs C es env).bind fun ds env' => .ex ⟨c, ds⟩ env'
  | .tr b hs, env => match evSs C isa b env with
    | .ex x env' => evHs C isa hs x env'
    | r => r
  | .frz i, env => match env.getD i none with
    | some t => .ok .nx (env.set i (some (.d t.snap)))
    | none => .no
def evSs (C : Cl) (isa : Nat → Nat → Bool) : Ss → Env → R Fl
  | .nil, env => .ok .nx env
  | .cons s ss, env => (evS C isa s env).bind fun f env' => match f with
    | .nx => evSs C isa ss env'
    | f => .ok f env'
def evHs (C : Cl) (isa : Nat → Nat → Bool) : Hs → X → Env → R Fl
  | .nil, x, env => .ex x env
  | .cons c _ b hs, x, env => match isa x.c c with
    | true => evSs C isa b env
    | false => evHs C isa hs x env
end
/-- what is left in the changed parameters -/
def outsOf (io : List Nat) (env : Env) : Env := io.map fun j => env.getD j none
/-- a def's run -/
def runF (C : Cl) (isa : Nat → Nat → Bool) (fn : Fn) (ts : List T) : R T :=
  if ts.length = fn.np ∧ apart fn.io fn.body.asg = true then match evSs C isa fn.body (ts.map some ++ List.replicate (fn.n - fn.np) none) with
    | .ok .nx env => .ok (.d .non) (outsOf fn.io env)
    | .ok (.rt t) env => .ok t (outsOf fn.io env)
    | .ex x env => .ex x (outsOf fn.io env)
    | _ => .no
  else .no
/-- the fields, from the first -/
def evF (C : Cl) : List (Str × E) → Env → List D → R (List D)
  | [], env, acc => .ok acc env
  | p :: r, env, acc => (evE C p.2 env).bind fun t env' => evF C r env' (acc ++ [t.snap])
/-- an object made -/
def runO (C : Cl) (isa : Nat → Nat → Bool) (fn : Fn) (c : Nat) (fl : List (Str × E)) (ts : List T) : R T :=
  if ts.length = fn.np ∧ fn.io = [] then match (evSs C isa fn.body (none :: (ts.map some ++ List.replicate (fn.n - (fn.np + 1)) none))).bind fun f env => (match f with
      | .nx => evF C fl env []
      | _ => .no) with
    | .ok ds _ => .ok (.d (.obj c (fl.map (·.1)) ds)) []
    | .ex x _ => .ex x []
    | .no => .no
  else .no
/-- the whole text: its defs, its constants, its error classes -/
structure Tx where
  fns : List Fn
  glob : Str → Option D
  isa : Nat → Nat → Bool
def Tx.io (P : Tx) (f : Nat) : List Nat := match P.fns[f]? with
  | some fn => fn.io
  | none => []
def Tx.call (P : Tx) : Nat → Nat → List T → R T
  | 0, _, _ => .no
  | 1, f, ts => match P.fns[f]? with
    | some fn => (match fn.obj, fn.low with
      | none, false => runF ⟨P.call 0, P.io, P.glob⟩ P.isa fn ts
      | _, _ => .no)
    | none => .no
  | k + 2, f, ts => match P.fns[f]? with
    | some fn => (match fn.obj, fn.low with
      | none, false => runF ⟨P.call (k + 1), P.io, P.glob⟩ P.isa fn ts
      | none, true => runF ⟨P.call k, P.io, P.glob⟩ P.isa fn ts
      | some p, _ => runO ⟨P.call k, P.io, P.glob⟩ P.isa fn p.1 p.2 ts)
    | none => .no
/-- the maker of an object, a method run two steps below their call -/
def Tx.make (P : Tx) (k f : Nat) (fn : Fn) (p : Nat × List (Str × E)) (ts : List T) : R T := match k with
  | 0 => .no
  | j + 1 => runO ⟨P.call j, P.io, P.glob⟩ P.isa fn p.1 p.2 ts
def Tx.lowR (P : Tx) (k f : Nat) (fn : Fn) (ts : List T) : R T := match k with
  | 0 => .no
  | j + 1 => runF ⟨P.call j, P.io, P.glob⟩ P.isa fn ts
theorem Tx.call_succ (P : Tx) (k f : Nat) (ts : List T) : P.call (k + 1) f ts = match P.fns[f]? with
    | some fn => (match fn.obj with
      | none => (match fn.low with
        | false => runF ⟨P.call k, P.io, P.glob⟩ P.isa fn ts
        | true => P.lowR k f fn ts)
      | some p => P.make k f fn p ts)
    | none => .no := by
  cases k with
  | zero =>
    unfold Tx.call
    cases P.fns[f]? with
    | none => rfl
    | some fn =>
      simp only
      cases fn.obj with
      | none => cases fn.low <;> rfl
      | some p => cases fn.low <;> rfl
  | succ k =>
    rw [Tx.call]
    cases P.fns[f]? with
    | none => rfl
    | some fn =>
      simp only
      cases fn.obj with
      | none => cases fn.low <;> rfl
      | some p => cases fn.low <;> rfl
end AM

set_option maxHeartbeats 4000000
/-! a tuple once -/
namespace AM
open PySem PySem.Spec PyProof.Rows L2
theorem mul_once (l : Addr) (xs : Array Value) (n : Nat) (dd : Option Addr) (sl : Array (Option Value)) (u : Tok) :
    Meets (Builtin.«tuple.__mul__» ⟨[.ref l, .int 1 u], []⟩) (fun _ R s => s.heap.get? l = some { cls := .type "tuple", dict := dd, data := .seq xs n, slots := sl } ∧ R (.ok (.ret (.ref l))) s) := by
  refine .of_wp fun prog w A R s ⟨hl, q⟩ => ?_
  obtain ⟨hp, g, d, tk, os⟩ := s
  have f1 := AutoSeq1.idx_int
  wp_walk using wpAny_loadPart' hl
  exact ⟨_, rfl, q⟩
def rOnce (K : PySem.W.Frag) : R2 := fun x y H Q => ∃ l xs, x = .ref l ∧ y = .int 1 ∧ SqT K H l xs ∧ Q (.ref l) H
theorem op_once {X : Cx} : OpR X (binaryOp .Mult) (rOnce X.K) := by
  intro pins s σ H x y v u Q I rx ry ⟨l, xs, e1, e2, hT, q⟩
  subst e1 e2
  cases (show v = Value.ref l from rx)
  obtain ⟨t, e⟩ := (show ∃ t, u = Value.int 1 t from ry)
  subst e
  obtain ⟨its, _, ⟨o, ho, hc, n, hd⟩, _⟩ := I.tuple hT
  obtain ⟨oc, od, da, sl⟩ := o
  cases (show oc = _ from hc)
  cases (show da = _ from hd)
  have m1 : wpAny (model X.prog X.w) X.A (call (.builtin "tuple.__mul__") [.ref l, .int 1 t]) (EP X pins σ Q) X.xe s :=
    call_meets F.slot_tuple_mul ⟨_, ho, rfl⟩ F.entry_tuple_mul (F.args_tuple_mul_2 _ _) (mul_once l its.toArray n od sl t) ⟨ho, .ref l, H, I, rfl, q⟩
  refine wpAny_binaryOp_repeat_ref (T := "tuple") (U := "int") (by decide) ⟨_, ho, rfl⟩ (typeIs_int · 1 t) noFill_tuple_mul F.fills_int_mul F.slot_int_rmul repeat_tuple F.slot_int_index.lookup ?_
  exact call_meets F.slot_int_rmul (typeIs_int s 1 t) F.entry_int_rmul (F.args_int_rmul_2 _ _) (int_rmul_tuple 1 t l its.toArray n od sl) ⟨ho, rfl, ⟨_, ho, rfl⟩, m1⟩
end AM

set_option maxHeartbeats 4000000
/-! what the trees say of the heap -/
namespace AM
open PySem PySem.Spec PyProof.Rows L2

/-- the constants of the text as values: classes, by their numbers -/
abbrev Cst := Nat → Option Addr

/-- a list of the module, as it stands in the text's own heap -/
def KL (K : PySem.W.Frag) (a : Addr) (vs : List V) : Prop := ∃ (its : Array Value) (n : Nat), K.lookup a = some { cls := .type "list", data := .seq its n } ∧ its.size ≤ sizeLine ∧ Vals vs its.toList
def KT (K : PySem.W.Frag) (a : Addr) (vs : List V) : Prop := ∃ (o : Obj) (its : Array Value) (n : Nat), K.lookup a = some o ∧ o.cls = .type "tuple" ∧ o.data = .seq its n ∧ its.size ≤ sizeLine ∧ Vals vs its.toList
def LstAt (K : PySem.W.Frag) (F : Hp) (a : Addr) (vs : List V) : Prop := Rd F a (.lst vs) ∨ KL K a vs
theorem LstAt.sq {K : PySem.W.Frag} {F : Hp} {a : Addr} {vs : List V} (h : LstAt K F a vs) : SqL K F a vs := h.imp id fun ⟨its, n, e, z, r⟩ => ⟨_, its, n, e, rfl, rfl, rfl, z, r⟩
/-- the same by a flag: one of the module's own -/
def KpL (K : PySem.W.Frag) (H : Hp) : Bool → Addr → List V → Prop
  | false, a, vs => Rd H a (.lst vs)
  | true, a, vs => KL K a vs
def KpT (K : PySem.W.Frag) (H : Hp) : Bool → Addr → List V → Prop
  | false, a, vs => Rd H a (.tup vs)
  | true, a, vs => KT K a vs
theorem KpL.at {K : PySem.W.Frag} {H : Hp} : ∀ {b : Bool} {a : Addr} {vs : List V}, KpL K H b a vs → LstAt K H a vs
  | false, _, _, h => .inl h
  | true, _, _, h => .inr h
theorem KpT.at {K : PySem.W.Frag} {H : Hp} : ∀ {b : Bool} {a : Addr} {vs : List V}, KpT K H b a vs → SqT K H a vs
  | false, _, _, h => .inl h
  | true, _, _, h => .inr h
/-- the kinds of the values that isinstance knows -/
def tags : List String := ["NoneType", "bool", "int", "str", "tuple", "list", "dict"]
/-- what is known of an own class at C -/
structure OTy (K : PySem.W.Frag) (C : Addr) : Prop where
  ha : PySem.W.findIn K (.ref C) "__class__" = some (some (.builtin "object.__class__"))
  hn : PySem.W.specialIn K (.builtin "object.__class__") "__get__" = some (some (.builtin "getset_descriptor.__get__"))
  ht : PySem.W.takesIn K (.builtin "object.__class__") = some true
  hm : PySem.W.mroIn K C (.type "object") = some true
  ne : PySem.W.findIn K (.ref C) "__ne__" = some (some (.builtin "object.__ne__"))
  ob : PySem.W.subIn K (.ref C) (.type "object") = some true
  tu : PySem.W.subIn K (.ref C) (.type "tuple") = some false
  sub : ∀ g ∈ tags, PySem.W.subIn K (.type g) (.ref C) = some false
  kit : ∀ g ∈ tags, PySem.W.kitOne K (.type g) (.ref C) = some false
def otB (K : PySem.W.Frag) (C : Addr) : Bool :=
  decide (PySem.W.findIn K (.ref C) "__class__" = some (some (.builtin "object.__class__"))) && decide (PySem.W.specialIn K (.builtin "object.__class__") "__get__" = some (some (.builtin "getset_descriptor.__get__"))) &&
  decide (PySem.W.takesIn K (.builtin "object.__class__") = some true) && decide (PySem.W.mroIn K C (.type "object") = some true) && decide (PySem.W.findIn K (.ref C) "__ne__" = some (some (.builtin "object.__ne__"))) &&
  decide (PySem.W.subIn K (.ref C) (.type "object") = some true) && decide (PySem.W.subIn K (.ref C) (.type "tuple") = some false) &&
  tags.all (fun g => decide (PySem.W.subIn K (.type g) (.ref C) = some false)) && tags.all (fun g => decide (PySem.W.kitOne K (.type g) (.ref C) = some false))
theorem otB_ok {K : PySem.W.Frag} {C : Addr} (h : otB K C = true) : OTy K C := by
  unfold otB at h
  simp only [Bool.and_eq_true, decide_eq_true_eq, List.all_eq_true] at h
  obtain ⟨⟨⟨⟨⟨⟨⟨⟨h1, h2⟩, h3⟩, h4⟩, h5⟩, h6⟩, h7⟩, h8⟩, h9⟩ := h
  exact ⟨h1, h2, h3, h4, h5, h6, h7, h8, h9⟩
/-- what is known of an object of class c with these fields -/
structure OFact (K : PySem.W.Frag) (cs : Cst) (c : Nat) (ns : List Str) (C : Addr) (fs : List (Str × V)) : Prop where
  at_ : cs c = some C
  cls : L2.Cls K C
  ns_ : fs.map (·.1) = ns
  no : ∀ x ∈ ns, NoAttr K C x
  ty : OTy K C
mutual
inductive RepD (K : PySem.W.Frag) (cs : Cst) (F : Hp) : D → V → Prop where
  | non : RepD K cs F .non .non
  | bl (b : Bool) : RepD K cs F (.bl b) (.bl b)
  | int (i : Int) : RepD K cs F (.int i) (.int i)
  | str (x : Str) : RepD K cs F (.str x) (.str x)
  | ty (n : String) : RepD K cs F (.ty n) (.ty n)
  | cls {c : Nat} {a : Addr} : cs c = some a → OTy K a → RepD K cs F (.cls c) (.ref a)
  | tup {a : Addr} {vs : List V} {ds : List D} : SqT K F a vs → RepDs K cs F ds vs → RepD K cs F (.tup ds) (.ref a)
  | lst {a : Addr} {vs : List V} {ds : List D} : LstAt K F a vs → RepDs K cs F ds vs → RepD K cs F (.lst ds) (.ref a)
  | dic0 {a : Addr} : F a = some (.dK []) → RepD K cs F (.dic []) (.ref a)
  | obj {c : Nat} {ns : List Str} {ds : List D} {a C dx : Addr} {fs : List (Str × V)} : F a = some (.ins C dx fs) → OFact K cs c ns C fs → RepDs K cs F ds (fs.map (·.2)) → RepD K cs F (.obj c ns ds) (.ref a)
inductive RepDs (K : PySem.W.Frag) (cs : Cst) (F : Hp) : List D → List V → Prop where
  | nil : RepDs K cs F [] []
  | cons {d : D} {v : V} {ds : List D} {vs : List V} : RepD K cs F d v → RepDs K cs F ds vs → RepDs K cs F (d :: ds) (v :: vs)
end

section
variable {K : PySem.W.Frag} {cs : Cst} {F F' H H' : Hp}

/-- all of F is in F' -/
def Sub (F F' : Hp) : Prop := ∀ p o, F p = some o → F' p = some o
theorem Sub.refl (F : Hp) : Sub F F := fun _ _ h => h
theorem Sub.trans {F1 F2 F3 : Hp} (a : Sub F1 F2) (b : Sub F2 F3) : Sub F1 F3 := fun p o h => b p o (a p o h)
theorem Sub.rd (a : Sub F F') {p : Addr} {u : HO} (h : Rd F p u) : Rd F' p u := by
  rcases h with h | ⟨o, h⟩
  · exact .inl (a _ _ h)
  · exact .inr ⟨o, a _ _ h⟩
theorem Sub.sql (a : Sub F F') {p : Addr} {vs : List V} (h : LstAt K F p vs) : LstAt K F' p vs := h.imp a.rd id
theorem Sub.sqt (a : Sub F F') {p : Addr} {vs : List V} (h : SqT K F p vs) : SqT K F' p vs := h.imp a.rd id
theorem Sub.upd {p : Addr} {o : HO} (h : F p = none) : Sub F (upd F p o) := fun q u e => by
  rw [upd_ne (ne_of_none e h)]
  exact e

mutual
theorem RepD.mono (s : Sub F F') : ∀ {d : D} {v : V}, RepD K cs F d v → RepD K cs F' d v
  | _, _, .non => .non
  | _, _, .bl b => .bl b
  | _, _, .int i => .int i
  | _, _, .str x => .str x
  | _, _, .ty n => .ty n
  | _, _, .cls h k => .cls h k
  | _, _, .tup h r => .tup (s.sqt h) (RepDs.mono s r)
  | _, _, .lst h r => .lst (s.sql h) (RepDs.mono s r)
  | _, _, .dic0 h => .dic0 (s _ _ h)
  | _, _, .obj h o r => .obj (s _ _ h) o (RepDs.mono s r)
theorem RepDs.mono (s : Sub F F') : ∀ {ds : List D} {vs : List V}, RepDs K cs F ds vs → RepDs K cs F' ds vs
  | _, _, .nil => .nil
  | _, _, .cons h r => .cons (RepD.mono s h) (RepDs.mono s r)
end

theorem RepDs.length : ∀ {ds : List D} {vs : List V}, RepDs K cs F ds vs → ds.length = vs.length
  | _, _, .nil => rfl
  | _, _, .cons _ r => by rw [List.length_cons, List.length_cons, r.length]
theorem RepDs.get : ∀ {ds : List D} {vs : List V} {i : Nat} {d : D}, RepDs K cs F ds vs → ds[i]? = some d → ∃ v, vs[i]? = some v ∧ RepD K cs F d v
  | _, _, 0, _, .cons h _, e => ⟨_, rfl, by cases e; exact h⟩
  | _, _, i + 1, d, .cons _ r, e => by
    obtain ⟨v, h1, h2⟩ := RepDs.get (i := i) (d := d) r (by simpa using e)
    exact ⟨v, by simpa using h1, h2⟩
  | _, _, _, _, .nil, e => by simp at e
theorem RepDs.getV : ∀ {ds : List D} {vs : List V} {i : Nat} {v : V}, RepDs K cs F ds vs → vs[i]? = some v → ∃ d, ds[i]? = some d ∧ RepD K cs F d v
  | _, _, 0, _, .cons h _, e => ⟨_, rfl, by cases e; exact h⟩
  | _, _, i + 1, d, .cons _ r, e => by
    obtain ⟨v, h1, h2⟩ := RepDs.getV (i := i) (v := d) r (by simpa using e)
    exact ⟨v, by simpa using h1, h2⟩
  | _, _, _, _, .nil, e => by simp at e
theorem RepDs.append : ∀ {ds es : List D} {vs ws : List V}, RepDs K cs F ds vs → RepDs K cs F es ws → RepDs K cs F (ds ++ es) (vs ++ ws)
  | _, _, _, _, .nil, s => s
  | _, _, _, _, .cons h r, s => .cons h (RepDs.append r s)
theorem RepDs.take : ∀ {ds : List D} {vs : List V} (n : Nat), RepDs K cs F ds vs → RepDs K cs F (ds.take n) (vs.take n)
  | _, _, 0, _ => by rw [List.take_zero, List.take_zero]; exact .nil
  | _, _, _ + 1, .nil => .nil
  | _, _, n + 1, .cons h r => .cons h (RepDs.take n r)
theorem RepDs.drop : ∀ {ds : List D} {vs : List V} (n : Nat), RepDs K cs F ds vs → RepDs K cs F (ds.drop n) (vs.drop n)
  | _, _, 0, r => r
  | _, _, _ + 1, .nil => .nil
  | _, _, n + 1, .cons _ r => RepDs.drop n r
theorem RepDs.set {d : D} {v : V} (h : RepD K cs F d v) : ∀ {ds : List D} {vs : List V} (i : Nat), RepDs K cs F ds vs → RepDs K cs F (ds.set i d) (vs.set i v)
  | _, _, _, .nil => .nil
  | _, _, 0, .cons _ r => .cons h r
  | _, _, i + 1, .cons g r => .cons g (RepDs.set h i r)
theorem RepDs.eraseIdx : ∀ {ds : List D} {vs : List V} (i : Nat), RepDs K cs F ds vs → RepDs K cs F (ds.eraseIdx i) (vs.eraseIdx i)
  | _, _, _, .nil => .nil
  | _, _, 0, .cons _ r => r
  | _, _, i + 1, .cons g r => .cons g (RepDs.eraseIdx i r)
theorem RepDs.dropLast {ds : List D} {vs : List V} (r : RepDs K cs F ds vs) : RepDs K cs F ds.dropLast vs.dropLast := by
  rw [List.dropLast_eq_take, List.dropLast_eq_take, r.length]
  exact r.take _
theorem RepDs.rep {ds : List D} {vs : List V} (r : RepDs K cs F ds vs) : ∀ k : Nat, RepDs K cs F (List.replicate k ds).flatten (List.replicate k vs).flatten
  | 0 => .nil
  | k + 1 => by
    rw [List.replicate_succ, List.replicate_succ, List.flatten_cons, List.flatten_cons]
    exact r.append (RepDs.rep r k)

/-- what stays stands in the heap -/
def FIn (F H : Hp) : Prop := (∀ p u, Rd F p u → Rd H p u) ∧ ∀ p (o : HO), F p = some o → H p = some o
theorem FIn.sql (f : FIn F H) {p : Addr} {vs : List V} (h : LstAt K F p vs) : LstAt K H p vs := h.imp (f.1 _ _) id
theorem FIn.sqt (f : FIn F H) {p : Addr} {vs : List V} (h : SqT K F p vs) : SqT K H p vs := h.imp (f.1 _ _) id
/-- the tree stands at v as it is now: kept, or a container that may change later -/
inductive RepV (K : PySem.W.Frag) (cs : Cst) (F H : Hp) : D → V → Prop where
  | fz {d : D} {v : V} : RepD K cs F d v → RepV K cs F H d v
  | ol {p : Addr} {vs : List V} {ds : List D} : H p = some (.lst vs) → RepDs K cs F ds vs → RepV K cs F H (.lst ds) (.ref p)

/-- a slot's content stands at v -/
def RepT (K : PySem.W.Frag) (cs : Cst) (F H : Hp) : T → V → Prop
  | .d d, v => RepD K cs F d v
  | .l ds, v => ∃ p vs, v = .ref p ∧ H p = some (.lst vs) ∧ F p = none ∧ RepDs K cs F ds vs
  | .m _, _ => False
  | .o _ _, _ => False
theorem RepT.snap {t : T} {v : V} (r : RepT K cs F H t v) : RepV K cs F H t.snap v := by
  cases t with
  | d d => exact .fz r
  | l ds => obtain ⟨p, vs, rfl, h, _, q⟩ := r; exact .ol h q
  | m _ => exact r.elim
  | o _ _ => exact r.elim

/-- what the slots own -/
def Own (env : AM.Env) (σ : L2.St) (p : Addr) : Prop := ∃ (i : Nat) (t : T), env[i]? = some (some t) ∧ t.own = true ∧ σ[i]? = some (some (.ref p))

structure Rel (K : PySem.W.Frag) (cs : Cst) (F H : Hp) (env : AM.Env) (σ : L2.St) : Prop where
  len : env.length = σ.length
  fin : FIn F H
  slot : ∀ (i : Nat) (t : T), env[i]? = some (some t) → ∃ v, σ[i]? = some (some v) ∧ RepT K cs F H t v
  sep : ∀ (i j : Nat) (t u : T) (p : Addr), env[i]? = some (some t) → env[j]? = some (some u) → t.own = true → u.own = true → σ[i]? = some (some (.ref p)) → σ[j]? = some (some (.ref p)) → i = j

/-- from one state to a later one: O is what may change -/
structure Ext (F H : Hp) (O : Addr → Prop) (F' H' : Hp) (O' : Addr → Prop) : Prop where
  fr : Sub F F'
  keep : ∀ p o, H p = some o → ¬ O p → H' p = some o
  new : ∀ p, F' p ≠ none → F p = none → O p ∨ H p = none
  own : ∀ p, O' p → O p ∨ H p = none
theorem Ext.refl (F H : Hp) (O : Addr → Prop) : Ext F H O F H O := ⟨Sub.refl F, fun _ _ h _ => h, fun _ a b => absurd b a, fun _ h => .inl h⟩
theorem Ext.trans {F1 H1 F2 H2 F3 H3 : Hp} {O1 O2 O3 : Addr → Prop} (a : Ext F1 H1 O1 F2 H2 O2) (b : Ext F2 H2 O2 F3 H3 O3) : Ext F1 H1 O1 F3 H3 O3 := by
  have back : ∀ p, O2 p ∨ H2 p = none → O1 p ∨ H1 p = none := fun p h => by
    rcases h with h | h
    · exact a.own p h
    · by_cases h1 : O1 p
      · exact .inl h1
      · right
        cases e : H1 p with
        | none => rfl
        | some o => rw [a.keep p o e h1] at h; cases h
  refine ⟨a.fr.trans b.fr, fun p o h n => ?_, fun p h e => ?_, fun p h => back p (b.own p h)⟩
  · refine b.keep p o (a.keep p o h n) fun z => ?_
    rcases a.own p z with q | q
    · exact n q
    · rw [h] at q; cases q
  · by_cases e2 : F2 p = none
    · exact back p (b.new p h e2)
    · exact a.new p e2 e

theorem RepT.ext {O O' : Addr → Prop} {t : T} {v : V} (x : Ext F H O F' H' O') (r : RepT K cs F H t v) (n : t.own = true → ∀ p, v = .ref p → ¬ O p) : RepT K cs F' H' t v := by
  cases t with
  | d d => exact RepD.mono x.fr r
  | l ds =>
    obtain ⟨p, vs, e, h, hf, q⟩ := r
    have np := n rfl p e
    refine ⟨p, vs, e, x.keep p _ h np, ?_, q.mono x.fr⟩
    cases z : F' p with
    | none => rfl
    | some o =>
      rcases x.new p (by rw [z]; intro q; cases q) hf with q | q
      · exact absurd q np
      · rw [h] at q; cases q
  | m _ => exact r.elim
  | o _ _ => exact r.elim
theorem RepV.sql {ds : List D} {v : V} (r : RepV K cs F H (.lst ds) v) (fin : FIn F H) : ∃ p vs, v = .ref p ∧ SqL K H p vs ∧ RepDs K cs F ds vs := by
  cases r with
  | fz h =>
    cases h with
    | lst h q => exact ⟨_, _, rfl, (fin.sql h).sq, q⟩
  | ol h q => exact ⟨_, _, rfl, .inl (.inl h), q⟩
theorem RepV.sqt {ds : List D} {v : V} (r : RepV K cs F H (.tup ds) v) (fin : FIn F H) : ∃ p vs, v = .ref p ∧ SqT K H p vs ∧ RepDs K cs F ds vs := by
  cases r with
  | fz h =>
    cases h with
    | tup h q => exact ⟨_, _, rfl, fin.sqt h, q⟩

/-! ### new objects -/
theorem rd_none (fin : FIn F H) {p : Addr} (h : H p = none) : F p = none := by
  cases e : F p with
  | none => rfl
  | some o =>
    rcases fin.1 p o (.inl e) with q | ⟨o', q⟩ <;> (rw [h] at q; cases q)
theorem rd_upd {p q : Addr} {o u : HO} (hp : H p = none) (h : Rd H q u) : Rd (upd H p o) q u := (Sub.upd hp).rd h
theorem rd_updF {p q : Addr} {o u : HO} (h : Rd (upd F p o) q u) : Rd F q u ∨ (q = p ∧ (some o = some u ∨ ∃ o', some o = some (.frz o' u))) := by
  by_cases e : q = p
  · subst e
    unfold Rd at h
    rw [upd_same] at h
    exact .inr ⟨rfl, h⟩
  · unfold Rd at h
    rw [upd_ne e] at h
    exact .inl h
/-- a new object that stays -/
theorem Rel.newF {env : AM.Env} {σ : L2.St} {p : Addr} {o : HO} (r : Rel K cs F H env σ) (hp : H p = none) : Rel K cs (upd F p o) (upd H p o) env σ ∧ Ext F H (Own env σ) (upd F p o) (upd H p o) (Own env σ) := by
  have fp := rd_none r.fin hp
  have x : Ext F H (Own env σ) (upd F p o) (upd H p o) (Own env σ) := ⟨Sub.upd fp, fun q u e _ => Sub.upd hp q u e, fun q h e => ?_, fun _ h => .inl h⟩
  · refine ⟨⟨r.len, ⟨fun q u h => ?_, fun q xs h => ?_⟩, fun i t e => ?_, r.sep⟩, x⟩
    · rcases rd_updF h with h | ⟨eq, h9⟩
      · exact rd_upd hp (r.fin.1 q u h)
      · subst eq
        unfold Rd
        rw [upd_same]
        exact h9
    · by_cases qp : q = p
      · subst qp
        rw [upd_same] at h ⊢
        exact h
      · rw [upd_ne qp] at h ⊢
        exact r.fin.2 q xs h
    · obtain ⟨v, e1, h⟩ := r.slot i t e
      refine ⟨v, e1, ?_⟩
      cases t with
      | d d => exact RepD.mono x.fr h
      | l ds =>
        obtain ⟨q, vs, e2, h1, h2, h3⟩ := h
        have qp : q ≠ p := ne_of_none h1 hp
        exact ⟨q, vs, e2, Sub.upd hp _ _ h1, by rw [upd_ne qp]; exact h2, h3.mono x.fr⟩
      | m _ => exact h.elim
      | o _ _ => exact h.elim
  · by_cases qp : q = p
    · subst qp; exact .inr hp
    · rw [upd_ne qp] at h; exact absurd e h
/-- a new object that may change -/
theorem Rel.newO {env : AM.Env} {σ : L2.St} {p : Addr} {o : HO} (r : Rel K cs F H env σ) (hp : H p = none) : Rel K cs F (upd H p o) env σ ∧ Ext F H (Own env σ) F (upd H p o) (Own env σ) ∧ F p = none ∧ ¬ Own env σ p := by
  have fp := rd_none r.fin hp
  have x : Ext F H (Own env σ) F (upd H p o) (Own env σ) := ⟨Sub.refl F, fun q u e _ => Sub.upd hp q u e, fun q h e => absurd e h, fun _ h => .inl h⟩
  refine ⟨⟨r.len, ⟨fun q u h => rd_upd hp (r.fin.1 q u h), fun q xs h => Sub.upd hp _ _ (r.fin.2 q xs h)⟩, fun i t e => ?_, r.sep⟩, x, fp, ?_⟩
  · obtain ⟨v, e1, h⟩ := r.slot i t e
    refine ⟨v, e1, ?_⟩
    cases t with
    | d d => exact h
    | l ds =>
      obtain ⟨q, vs, e2, h1, h2, h3⟩ := h
      exact ⟨q, vs, e2, Sub.upd hp _ _ h1, h2, h3⟩
    | m _ => exact h.elim
    | o _ _ => exact h.elim
  · rintro ⟨i, t, e, ow, es⟩
    obtain ⟨v, e1, h⟩ := r.slot i t e
    rw [es] at e1; cases e1
    cases t with
    | d d => cases ow
    | l ds =>
      obtain ⟨q, vs, e2, h1, _⟩ := h
      cases e2
      rw [hp] at h1; cases h1
    | m _ => exact h.elim
    | o _ _ => exact h.elim
/-- behind an expression: t stands at v -/
structure Post (K : PySem.W.Frag) (cs : Cst) (F H : Hp) (env : AM.Env) (σ : L2.St) (F' H' : Hp) (env' : AM.Env) (t : T) (v : V) : Prop where
  ext : Ext F H (Own env σ) F' H' (Own env' σ)
  rel : Rel K cs F' H' env' σ
  rep : RepT K cs F' H' t v
  fresh : t.own = true → ∀ p, v = .ref p → ¬ Own env' σ p ∧ (Own env σ p ∨ H p = none)
/-- a result of its own is kept from now on -/
theorem Post.kept {env env' : AM.Env} {σ : L2.St} {t : T} {v : V} (r : Post K cs F H env σ F' H' env' t v) : ∃ F2, Post K cs F H env σ F2 H' env' (.d t.snap) v ∧ Sub F' F2 := by
  obtain ⟨x, r, h, n⟩ := r
  cases t with
  | d d => exact ⟨F', ⟨x, r, h, fun z => by cases z⟩, Sub.refl _⟩
  | l ds =>
    obtain ⟨p, vs, e, h1, h2, h3⟩ := h
    obtain ⟨np, np2⟩ := n rfl p e
    have s : Sub F' (upd F' p (.lst vs)) := Sub.upd h2
    refine ⟨upd F' p (.lst vs), ⟨⟨x.fr.trans s, x.keep, fun q a b => ?_, x.own⟩, ⟨r.len, ⟨fun q u hq => ?_, fun q xs hq => ?_⟩, fun i t ei => ?_, r.sep⟩, ?_, fun z => by cases z⟩, s⟩
    · by_cases qp : q = p
      · subst qp; exact np2
      · rw [upd_ne qp] at a; exact x.new q a b
    · rcases rd_updF hq with hq | ⟨eq, h9⟩
      · exact r.fin.1 q u hq
      · subst eq
        rcases h9 with h9 | ⟨o', h9⟩
        · cases h9; exact .inl h1
        · cases h9
    · by_cases qp : q = p
      · subst qp
        rw [upd_same] at hq
        cases hq
        exact h1
      · rw [upd_ne qp] at hq
        exact r.fin.2 q xs hq
    · obtain ⟨w, e1, hw⟩ := r.slot i t ei
      refine ⟨w, e1, ?_⟩
      cases t with
      | d d => exact RepD.mono s hw
      | l es =>
        obtain ⟨q, ws, e2, g1, g2, g3⟩ := hw
        have qp : q ≠ p := fun z => np ⟨i, .l es, ei, rfl, by rw [e1, e2, z]⟩
        exact ⟨q, ws, e2, g1, by rw [upd_ne qp]; exact g2, g3.mono s⟩
      | m _ => exact hw.elim
      | o _ _ => exact hw.elim
    · subst e
      exact .lst (.inl (.inl upd_same)) (h3.mono s)
  | m _ => exact h.elim
  | o _ _ => exact h.elim
/-- nothing but a state and a value that stays -/
theorem Post.stay {env : AM.Env} {σ : L2.St} {d : D} {v : V} (r : Rel K cs F H env σ) (h : RepD K cs F d v) : Post K cs F H env σ F H env (.d d) v := ⟨Ext.refl _ _ _, r, h, fun z => by cases z⟩
/-- one behind another -/
theorem Post.after {env env1 env' : AM.Env} {σ : L2.St} {F1 H1 : Hp} {t : T} {v : V} (x : Ext F H (Own env σ) F1 H1 (Own env1 σ)) (r : Post K cs F1 H1 env1 σ F' H' env' t v) : Post K cs F H env σ F' H' env' t v :=
  ⟨x.trans r.ext, r.rel, r.rep, fun o p e => ⟨(r.fresh o p e).1, by
    rcases (r.fresh o p e).2 with q | q
    · exact x.own p q
    · by_cases h1 : Own env σ p
      · exact .inl h1
      · right
        cases e : H p with
        | none => rfl
        | some u => rw [x.keep p u e h1] at q; cases q⟩⟩
/-- a new thing that stays -/
theorem Post.newK {env : AM.Env} {σ : L2.St} {p : Addr} {o : HO} {d : D} (r : Rel K cs F H env σ) (hp : H p = none) (h : RepD K cs (upd F p o) d (.ref p)) :
    Post K cs F H env σ (upd F p o) (upd H p o) env (.d d) (.ref p) := by
  obtain ⟨r2, x⟩ := r.newF (o := o) hp
  exact ⟨x, r2, h, fun z => by cases z⟩
/-- a new tuple -/
theorem Post.newTup {env : AM.Env} {σ : L2.St} {p : Addr} {ds : List D} {vs : List V} (r : Rel K cs F H env σ) (hp : H p = none) (h : RepDs K cs F ds vs) :
    Post K cs F H env σ (upd F p (.tup vs)) (upd H p (.tup vs)) env (.d (.tup ds)) (.ref p) := by
  obtain ⟨r2, x⟩ := r.newF (o := .tup vs) hp
  exact ⟨x, r2, .tup (.inl (.inl upd_same)) (h.mono x.fr), fun z => by cases z⟩
theorem Post.newLst {env : AM.Env} {σ : L2.St} {p : Addr} {ds : List D} {vs : List V} (r : Rel K cs F H env σ) (hp : H p = none) (h : RepDs K cs F ds vs) :
    Post K cs F H env σ F (upd H p (.lst vs)) env (.l ds) (.ref p) := by
  obtain ⟨r2, x, fp, no⟩ := r.newO (o := .lst vs) hp
  exact ⟨x, r2, ⟨p, vs, rfl, upd_same, fp, h⟩, fun _ q e => by cases e; exact ⟨no, .inr hp⟩⟩
end
end AM

set_option maxHeartbeats 4000000
/-! what is reckoned of values alone: the machine does as the trees say -/
namespace AM
open PySem PySem.Spec PyProof.Rows L2
section
variable {X : Cx} {cs : Cst} {F H : Hp} {env : AM.Env} {σ : L2.St}

/-! ### lists that are looked at -/
theorem lstR {pins : List (Addr × Obj)} {s : Shared} {l : Addr} {xs : List V} (I : Inv X pins σ H s) (h : LstAt X.K H l xs) : xs.length ≤ sizeLine ∧ ∃ (its : List Value) (n : Nat), Vals xs its ∧ xs.length = its.length ∧ s.heap.get? l = some { cls := .type "list", data := .seq its.toArray n } := by
  rcases h with h | ⟨its, n, hk, hz, r⟩
  · obtain ⟨z, its, n, r, e⟩ := h.ok I.hok
    exact ⟨z, its, n, r, r.length, e⟩
  · have e := r.length
    refine ⟨?_, its.toList, n, r, e, by rw [Array.toArray_toList]; exact I.kIn l _ hk⟩
    simp only [Array.length_toList] at e
    omega
def rCatR (K : PySem.W.Frag) : R2 := fun x y H Q => ∃ l b xs zs, x = .ref l ∧ y = .ref b ∧ LstAt K H l xs ∧ LstAt K H b zs ∧ xs.length + zs.length ≤ sizeLine ∧ ∀ p, H p = none → Q (.ref p) (upd H p (.lst (xs ++ zs)))
theorem op_catR : OpR X (binaryOp .Add) (rCatR X.K) := by
  intro pins s σ H x y v u Q I rx ry h
  obtain ⟨l, b, xs, zs, rfl, rfl, hH, hB, hz, q⟩ := h
  cases rx
  cases ry
  obtain ⟨z, its, n, r, hl, e⟩ := lstR I hH
  obtain ⟨z2, its2, n2, r2, hl2, e2⟩ := lstR I hB
  refine PySem.P.add_list e e2 ?_ (by rw [List.size_toArray, List.size_toArray]; omega)
  have ea : its.toArray ++ its2.toArray = (its ++ its2).toArray := by simp
  rw [ea]
  exact ⟨.ref _, _, I.lnew (t' := s.toks) (r.append r2) (by rw [List.length_append]; omega), rfl, q _ I.fresh⟩
def rRepR (K : PySem.W.Frag) : R2 := fun x y H Q => ∃ l k xs, x = .ref l ∧ y = .int k ∧ LstAt K H l xs ∧ -(2 ^ 63) ≤ k ∧ k < 2 ^ 63 ∧ xs.length * k.toNat ≤ sizeLine ∧
  ∀ p, H p = none → Q (.ref p) (upd H p (.lst (List.replicate k.toNat xs).flatten))
theorem op_repR : OpR X (binaryOp .Mult) (rRepR X.K) := by
  intro pins s σ H x y v u Q I rx ry h
  obtain ⟨l, k, xs, rfl, rfl, hH, h1, h2, hz, q⟩ := h
  cases rx
  obtain ⟨t, rfl⟩ := ry
  obtain ⟨z, its, n, r, hl, e⟩ := lstR I hH
  have hlen : its.toArray.size * k.toNat ≤ sizeLine := by rw [List.size_toArray, ← hl]; exact hz
  have hcap : ¬ its.toArray.size * k.toNat > (2 ^ 63 - 1) / 8 := by
    have : (sizeLine : Nat) ≤ (2 ^ 63 - 1) / 8 := by decide
    omega
  have hfit : ¬ (!Builtin.List.listFitsIndex k) = true := by
    rw [fitsIndex_both h1 h2]
    exact Bool.false_ne_true
  have hlong : ¬ Builtin.List.listTooLong (its.toArray.size * k.toNat) = true := by
    rw [notLongL hlen]
    exact Bool.false_ne_true
  have hnew : List.foldl (fun x1 x2 => x1 ++ x2) #[] (List.replicate (if its.toArray.isEmpty = true then 0 else k.toNat) its.toArray) = (List.replicate k.toNat its).flatten.toArray := by
    have f0 : ∀ m : Nat, List.foldl (fun x1 x2 => x1 ++ x2) #[] (List.replicate m its.toArray) = (List.replicate m its).flatten.toArray := fun m => by
      have := foldl_rep its m []
      rw [List.nil_append] at this
      exact this
    rw [f0]
    cases its with
    | nil => simp
    | cons a r' => rw [if_neg (by simp)]
  refine wpAny_binaryOp_repeat_ref (T := "list") (U := "int") (by decide) ⟨_, e, rfl⟩ (fun s' => typeIs_int s' k t) noFill_list_mul F.fills_int_mul F.slot_int_rmul repeat_list F.slot_int_index.lookup
    (call_meets F.slot_int_rmul (typeIs_int s k t) F.entry_int_rmul (F.args_int_rmul_2 _ _) (int___rmul___int_list k t l its.toArray n)
      ⟨e, rfl, ⟨_, e, rfl⟩, call_meets F.slot_list_mul ⟨_, e, rfl⟩ F.entry_list_mul (F.args_list_mul_2 _ _) (AutoListH.list___mul___list_int_3 l its.toArray n k t hfit hcap hlong) ⟨e, ?_⟩⟩)
  rw [hnew]
  exact ⟨.ref _, _, I.lnew (t' := s.toks) (r.rep k.toNat) (by rw [PyProof.Rows.lm_len_rep_flat, Nat.mul_comm]; exact hz), rfl, q _ I.fresh⟩

theorem RepV.rdl {K : PySem.W.Frag} {ds : List D} {v : V} (r : RepV K cs F H (.lst ds) v) (fin : FIn F H) : ∃ p vs, v = .ref p ∧ LstAt K H p vs ∧ RepDs K cs F ds vs := by
  cases r with
  | fz h =>
    cases h with
    | lst h q => exact ⟨_, _, rfl, fin.sql h, q⟩
  | ol h q => exact ⟨_, _, rfl, .inl (.inl h), q⟩

/-- a value without a heap, and its tree -/
theorem RepV.int {K : PySem.W.Frag} {i : Int} {v : V} (r : RepV K cs F H (.int i) v) : v = .int i := by
  cases r with
  | fz h => cases h; rfl
theorem RepV.str {K : PySem.W.Frag} {i : Str} {v : V} (r : RepV K cs F H (.str i) v) : v = .str i := by
  cases r with
  | fz h => cases h; rfl
theorem RepV.bl {K : PySem.W.Frag} {i : Bool} {v : V} (r : RepV K cs F H (.bl i) v) : v = .bl i := by
  cases r with
  | fz h => cases h; rfl
theorem RepV.non {K : PySem.W.Frag} {v : V} (r : RepV K cs F H .non v) : v = .non := by
  cases r with
  | fz h => cases h; rfl
theorem RepV.ty {K : PySem.W.Frag} {n : String} {v : V} (r : RepV K cs F H (.ty n) v) : v = .ty n := by
  cases r with
  | fz h => cases h; rfl

/-- what comes behind: the value t -/
def Gives (K : PySem.W.Frag) (cs : Cst) (F H : Hp) (env : AM.Env) (σ : L2.St) (t : T) (Q : VK) : Prop := ∀ v F' H', Post K cs F H env σ F' H' env t v → Q v H'
theorem Gives.stay {K : PySem.W.Frag} {d : D} {v : V} {Q : VK} (r : Rel K cs F H env σ) (q : Gives K cs F H env σ (.d d) Q) (h : RepD K cs F d v) : Q v H := q v F H (Post.stay r h)
theorem Gives.tup {K : PySem.W.Frag} {ds : List D} {vs : List V} {Q : VK} (r : Rel K cs F H env σ) (q : Gives K cs F H env σ (.d (.tup ds)) Q) (h : RepDs K cs F ds vs) : ∀ p, H p = none → Q (.ref p) (upd H p (.tup vs)) := fun p hp => q _ _ _ (Post.newTup r hp h)
theorem Gives.lst {K : PySem.W.Frag} {ds : List D} {vs : List V} {Q : VK} (r : Rel K cs F H env σ) (q : Gives K cs F H env σ (.l ds) Q) (h : RepDs K cs F ds vs) : ∀ p, H p = none → Q (.ref p) (upd H p (.lst vs)) := fun p hp => q _ _ _ (Post.newLst r hp h)

theorem bin_ok {o : Operator} {d e : D} {t : T} {x y : V} {Q : VK} (h : binF o d e = some t) (r : Rel X.K cs F H env σ) (rx : RepV X.K cs F H d x) (ry : RepV X.K cs F H e y) (q : Gives X.K cs F H env σ t Q) :
    ∃ r : R2, OpR X (binaryOp o) r ∧ r x y H Q := by
  unfold binF at h
  split at h
  · cases h
    cases rx.int
    cases ry.int
    exact ⟨_, op_add, _, _, rfl, rfl, q.stay r (.int _)⟩
  · split at h
    · rename_i hz
      cases h
      cases rx.str
      cases ry.str
      exact ⟨_, op_add_str, _, _, rfl, rfl, hz, q.stay r (.str _)⟩
    · cases h
  · split at h
    · rename_i hz
      cases h
      obtain ⟨p, vs, rfl, h1, r1⟩ := rx.sqt r.fin
      obtain ⟨p2, vs2, rfl, h2, r2⟩ := ry.sqt r.fin
      refine ⟨_, op_catA, p, p2, vs, vs2, rfl, rfl, h1, h2, by rw [← r1.length, ← r2.length]; exact hz, fun e => ?_, fun _ e => ?_, fun _ _ => q.tup r (r1.append r2)⟩
      · subst e
        cases r1
        cases ry with
        | fz h => exact q.stay r h
      · subst e
        cases r2
        rw [List.append_nil] at q
        cases rx with
        | fz h => exact q.stay r h
    · cases h
  · split at h
    · rename_i hz
      cases h
      obtain ⟨p, vs, rfl, h1, r1⟩ := rx.rdl r.fin
      obtain ⟨p2, vs2, rfl, h2, r2⟩ := ry.rdl r.fin
      exact ⟨_, op_catR, p, p2, vs, vs2, rfl, rfl, h1, h2, by rw [← r1.length, ← r2.length]; exact hz, q.lst r (r1.append r2)⟩
    · cases h
  · cases h
    cases rx.int
    cases ry.bl
    exact ⟨_, op_add_ib, _, _, rfl, rfl, q.stay r (.int _)⟩
  · cases h
    cases rx.int
    cases ry.int
    exact ⟨_, op_sub, _, _, rfl, rfl, q.stay r (.int _)⟩
  · split at h
    · rename_i hz
      cases h
      cases rx.int
      cases ry.int
      exact ⟨_, op_mul, _, _, rfl, rfl, hz, q.stay r (.int _)⟩
    · cases h
  · split at h
    · cases h
      obtain ⟨p, vs, rfl, h1, r1⟩ := rx.sqt r.fin
      cases ry.int
      rename_i hz
      obtain ⟨z1, z2, z3, z4⟩ := hz
      exact ⟨_, op_repT, p, _, vs, rfl, rfl, h1, by intro e; subst e; cases r1; exact z1 rfl, z2, z3, by rw [← r1.length]; exact z4, q.tup r (r1.rep _)⟩
    · split at h
      · rename_i e
        subst e
        cases h
        obtain ⟨p, vs, rfl, h1, r1⟩ := rx.sqt r.fin
        cases ry.int
        refine ⟨_, op_once, p, vs, rfl, rfl, h1, ?_⟩
        cases rx with
        | fz h => exact q.stay r h
      · cases h
  · split at h
    · cases h
      obtain ⟨p, vs, rfl, h1, r1⟩ := rx.rdl r.fin
      cases ry.int
      rename_i hz
      obtain ⟨z1, z2, z3⟩ := hz
      exact ⟨_, op_repR, p, _, vs, rfl, rfl, h1, z1, z2, by rw [← r1.length]; exact z3, q.lst r (r1.rep _)⟩
    · cases h
  · split at h
    · rename_i hz
      cases h
      cases rx.int
      cases ry.int
      exact ⟨_, op_mod, _, _, rfl, rfl, hz, q.stay r (.int _)⟩
    · cases h
  · split at h
    · rename_i hz
      cases h
      cases rx.int
      cases ry.int
      exact ⟨_, op_fdiv, _, _, rfl, rfl, hz, q.stay r (.int _)⟩
    · cases h
  · split at h
    · rename_i hz
      cases h
      cases rx.int
      cases ry.int
      exact ⟨_, op_pow, _, _, rfl, rfl, hz, q.stay r (.int _)⟩
    · cases h
  · cases h

/-! ### comparisons -/
mutual
theorem RepD.dp {K : PySem.W.Frag} (fin : FIn F H) : ∀ {d : D} {v : V}, RepD K cs F d v → d.toP.canLay0 = true → Dp K H v d.toP
  | _, _, .non, _ => by simp only [D.toP]; exact .non
  | _, _, .bl b, _ => by simp only [D.toP]; exact .bl b
  | _, _, .int b, _ => by simp only [D.toP]; exact .int b
  | _, _, .str b, _ => by simp only [D.toP]; exact .str b
  | _, _, .ty _, h => by simp [D.toP, PyData.canLay0] at h
  | _, _, .cls _ _, h => by simp [D.toP, PyData.canLay0] at h
  | _, _, .dic0 _, h => by simp [D.toP, PyData.canLay0] at h
  | _, _, .obj _ _ _, h => by simp [D.toP, PyData.canLay0] at h
  | _, _, .tup h r, c => by
    simp only [D.toP, PyData.canLay0] at c ⊢
    exact .tup (fin.sqt h) (RepDs.dp fin r c)
  | _, _, .lst h r, c => by
    simp only [D.toP, PyData.canLay0] at c ⊢
    exact .lst (fin.sql h).sq (RepDs.dp fin r c)
theorem RepDs.dp {K : PySem.W.Frag} (fin : FIn F H) : ∀ {ds : List D} {vs : List V}, RepDs K cs F ds vs → PyData.canLayAll0 (toPs ds) = true → DpAll K H vs (toPs ds)
  | _, _, .nil, _ => by simp only [toPs]; exact .nil
  | _, _, .cons h r, c => by
    simp only [toPs, PyData.canLayAll0, Bool.and_eq_true] at c ⊢
    exact .cons (RepD.dp fin h c.1) (RepDs.dp fin r c.2)
end
theorem RepV.dp {K : PySem.W.Frag} {d : D} {v : V} (r : RepV K cs F H d v) (fin : FIn F H) (c : d.toP.canLay0 = true) : Dp K H v d.toP := by
  cases r with
  | fz h => exact RepD.dp fin h c
  | ol h q =>
    simp only [D.toP, PyData.canLay0] at c ⊢
    exact .lst (.inl (.inl h)) (RepDs.dp fin q c)
theorem eqF_some {d e : D} {b : Bool} (h : eqF d e = some b) : SeqAt.shaped d.toP = true ∧ SeqAt.shaped e.toP = true ∧ PyData.eqv d.toP e.toP = b := by
  unfold eqF at h
  split at h
  · rename_i c
    rw [Bool.and_eq_true] at c
    exact ⟨c.1, c.2, Option.some.inj h⟩
  · cases h
theorem RepD.flat {K : PySem.W.Frag} {d : D} {v : V} (r : RepD K cs F d v) (f : d.flat = true) : flatV v = true ∧ ∀ {e : D} {w : V}, RepD K cs F e w → e.flat = true → eqV w v = eqFlat e d := by
  cases r <;> first | (cases f; done) | (refine ⟨rfl, fun q g => ?_⟩; cases q <;> first | rfl | (cases g; done))
theorem RepDs.flats {K : PySem.W.Frag} {d : D} {v : V} (r : RepD K cs F d v) (f : d.flat = true) : ∀ {ds : List D} {vs : List V}, RepDs K cs F ds vs → ds.all D.flat = true → vs.all flatV = true ∧ inV v vs = ds.any fun z => eqFlat z d
  | _, _, .nil, _ => ⟨rfl, rfl⟩
  | _, _, .cons h q, g => by
    rw [List.all_cons, Bool.and_eq_true] at g
    obtain ⟨a, b⟩ := RepDs.flats r f q g.2
    refine ⟨by rw [List.all_cons, (h.flat g.1).1, a]; rfl, ?_⟩
    show (eqV _ _ || inV _ _) = _
    rw [b, (r.flat f).2 h g.1, List.any_cons]
theorem toPs_map : ∀ ds : List D, toPs ds = ds.map D.toP
  | [] => rfl
  | d :: ds => by rw [toPs, toPs_map ds, List.map_cons]
theorem inF_ok {d e : D} {b : Bool} {x y : V} {Q : VK} {k : Nat} (hr : Room k X.A) (h : inF d e = some b) (r : Rel X.K cs F H env σ) (rx : RepV X.K cs F H d x) (ry : RepV X.K cs F H e y) :
    (Q (.bl b) H → ∃ r : R2, OpR X (compareOp .In) r ∧ r x y H Q) ∧ (Q (.bl (!b)) H → ∃ r : R2, OpR X (compareOp .NotIn) r ∧ r x y H Q) := by
  have hu : X.A.units + 65 < cLine := by have := hr.un; omega
  unfold inF at h
  split at h
  · split at h
    · rename_i ds c
      rw [Bool.and_eq_true] at c
      have e := Option.some.inj h
      have d1 := rx.dp r.fin (SeqAt.canLay_of_shaped c.1)
      have d2 := ry.dp r.fin (SeqAt.canLay_of_shaped c.2)
      simp only [D.toP] at d2 c
      have e2 : ((toPs ds).any fun z => PyData.eqv z d.toP) = b := by rw [toPs_map, List.any_map]; exact e
      exact ⟨fun q => ⟨_, op_inD hu, _, _, d1, d2, c.1, c.2, by rw [e2]; exact q⟩, fun q => ⟨_, op_notInD hu, _, _, d1, d2, c.1, c.2, by rw [e2]; exact q⟩⟩
    · cases h
  · split at h
    · rename_i c
      rw [Bool.and_eq_true] at c
      have e := Option.some.inj h
      obtain ⟨p, vs, rfl, h1, r1⟩ := ry.sqt r.fin
      cases rx with
      | fz rx =>
        obtain ⟨a, q2⟩ := RepDs.flats rx c.1 r1 c.2
        have e2 : inV x vs = b := q2.trans e
        exact ⟨fun q => ⟨_, op_in_seq, p, vs, rfl, .inr h1, (rx.flat c.1).1, a, by rw [e2]; exact q⟩, fun q => ⟨_, op_notIn_seq, p, vs, rfl, .inr h1, (rx.flat c.1).1, a, by rw [e2]; exact q⟩⟩
      | ol h q => cases c.1
    · cases h
  · cases h
theorem RepV.noneB {K : PySem.W.Frag} {d : D} {v : V} (r : RepV K cs F H d v) : decide (v = .non) = d.isNon := by
  cases r with
  | fz h => cases h <;> rfl
  | ol h q => rfl
theorem cmp_ok {o : CmpOp} {d e : D} {b : Bool} {x y : V} {Q : VK} {k : Nat} (hr : Room k X.A) (h : cmpF o d e = some b) (r : Rel X.K cs F H env σ) (rx : RepV X.K cs F H d x) (ry : RepV X.K cs F H e y) (q : Q (.bl b) H) :
    ∃ r : R2, OpR X (compareOp o) r ∧ r x y H Q := by
  have hu : X.A.units + 64 < cLine := hr.units
  unfold cmpF at h
  split at h
  · obtain ⟨s1, s2, e⟩ := eqF_some h
    exact ⟨_, op_eqD hu, _, _, rx.dp r.fin (SeqAt.canLay_of_shaped s1), ry.dp r.fin (SeqAt.canLay_of_shaped s2), s1, s2, by rw [e]; exact q⟩
  · obtain ⟨c, hc, e⟩ := Option.map_eq_some_iff.mp h
    obtain ⟨s1, s2, e2⟩ := eqF_some hc
    exact ⟨_, op_neD hu, _, _, rx.dp r.fin (SeqAt.canLay_of_shaped s1), ry.dp r.fin (SeqAt.canLay_of_shaped s2), s1, s2, by rw [e2, e]; exact q⟩
  · cases h; cases rx.int; cases ry.int
    exact ⟨_, op_lt, _, _, rfl, rfl, q⟩
  · cases h; cases rx.int; cases ry.int
    exact ⟨_, op_le, _, _, rfl, rfl, q⟩
  · cases h; cases rx.int; cases ry.int
    exact ⟨_, op_gt, _, _, rfl, rfl, q⟩
  · cases h; cases rx.int; cases ry.int
    exact ⟨_, op_ge, _, _, rfl, rfl, q⟩
  · cases h
    cases ry.non
    exact ⟨_, op_isN, rfl, by rw [rx.noneB]; exact q⟩
  · cases h
    cases ry.non
    refine ⟨_, op_notN, rfl, ?_⟩
    rw [rx.noneB]
    exact q
  · exact (inF_ok hr h r rx ry).1 q
  · obtain ⟨c, hc, e⟩ := Option.map_eq_some_iff.mp h
    subst e
    exact (inF_ok hr hc r rx ry).2 q
  · cases h

/-! ### items, slices -/
theorem RepDs.at {K : PySem.W.Frag} {ds : List D} {vs : List V} (r : RepDs K cs F ds vs) {i : Int} {d : D} (h : atI ds i = some d) : ∃ v, atI vs i = some v ∧ RepD K cs F d v := by
  unfold atI at h ⊢
  rw [← r.length]
  cases e : ixN ds.length i with
  | none => rw [e] at h; cases h
  | some j =>
    rw [e] at h
    exact r.get h
theorem ix_ok {d e : D} {t : D} {x y : V} {Q : VK} (h : ixF d e = some t) (r : Rel X.K cs F H env σ) (rx : RepV X.K cs F H d x) (ry : RepV X.K cs F H e y) (q : Gives X.K cs F H env σ (.d t) Q) :
    ∃ r : R2, IxR X r ∧ r x y H Q := by
  unfold ixF at h
  split at h
  · obtain ⟨p, vs, rfl, h1, r1⟩ := rx.sql r.fin
    cases ry.int
    obtain ⟨v, a, b⟩ := r1.at h
    exact ⟨_, ix_list, p, vs, _, v, rfl, rfl, h1, a, q.stay r b⟩
  · obtain ⟨p, vs, rfl, h1, r1⟩ := rx.sqt r.fin
    cases ry.int
    obtain ⟨v, a, b⟩ := r1.at h
    exact ⟨_, ix_tup, p, vs, _, v, rfl, rfl, h1, a, q.stay r b⟩
  · split at h
    · rename_i hz
      obtain ⟨c, hc, e⟩ := Option.map_eq_some_iff.mp h
      subst e
      cases rx.str
      cases ry.int
      exact ⟨_, ix_str, _, _, c, rfl, rfl, hz, hc, q.stay r (.str _)⟩
    · cases h
  · cases h
theorem RepDs.cut {K : PySem.W.Frag} {ds : List D} {vs : List V} (r : RepDs K cs F ds vs) (lo hi : Option Int) : RepDs K cs F (cutG ds lo hi) (cutV vs lo hi) := by
  unfold cutG cutV
  rw [r.length]
  exact (r.drop _).take _
theorem cut_whole {α : Type} (xs : List α) (lo hi : Option Int) (h : HT.sIx xs.length 0 lo = 0 ∧ HT.sIx xs.length xs.length hi = xs.length) : cutG xs lo hi = xs := by
  unfold cutG
  rw [h.1, h.2]
  simp
theorem sl_ok {d : D} {lo hi : Option Int} {t : T} {x : V} {Q : VK} (h : slF d lo hi = some t) (r : Rel X.K cs F H env σ) (rx : RepV X.K cs F H d x) (q : Gives X.K cs F H env σ t Q) :
    ∃ r : V → Option Int → Option Int → Hp → VK → Prop, SlR X r ∧ r x lo hi H Q := by
  unfold slF at h
  split at h
  · cases h
    obtain ⟨p, vs, rfl, h1, r1⟩ := rx.sql r.fin
    exact ⟨_, sl_list, p, vs, rfl, h1, q.lst r (r1.cut lo hi)⟩
  · cases h
    obtain ⟨p, vs, rfl, h1, r1⟩ := rx.sqt r.fin
    refine ⟨_, sl_tupA, p, vs, rfl, h1, fun e => ?_, fun _ => q.tup r (r1.cut lo hi)⟩
    rw [← r1.length] at e
    rw [cut_whole _ lo hi e] at q
    cases rx with
    | fz h => exact q.stay r h
  · cases h

/-! ### built-ins -/
theorem RepDs.bls {K : PySem.W.Frag} : ∀ {ds : List D} {vs : List V}, RepDs K cs F ds vs → ds.all D.isBl = true → vs = (ds.map D.getBl).map V.bl
  | _, _, .nil, _ => rfl
  | _, _, .cons h r, g => by
    rw [List.all_cons, Bool.and_eq_true] at g
    rw [RepDs.bls r g.2]
    cases h <;> first | rfl | (cases g.1; done)
theorem RepDs.ints {K : PySem.W.Frag} : ∀ {ds : List D} {vs : List V}, RepDs K cs F ds vs → ds.all D.isInt = true → vs = (ds.map D.getInt).map V.int
  | _, _, .nil, _ => rfl
  | _, _, .cons h r, g => by
    rw [List.all_cons, Bool.and_eq_true] at g
    rw [RepDs.ints r g.2]
    cases h <;> first | rfl | (cases g.1; done)
/-- sum of a tuple of ints -/
theorem sum_tupG {prog : Program} {w : World} {A : Around} {E : Value → Shared → Prop} {s : Shared} {l : Addr} {xs : Array (Int × Tok)} {Q : Value → Shared → Prop} (hh : A.handled = none) (hl : s.heap.IsTuple l (intItems xs))
    (h : ∀ h' tk t', (∀ b o, s.heap.get? b = some o → h'.get? b = some o) → Q (.int (preSum (numAt xs) xs.size) t') { s with heap := h', toks := tk }) :
    wpAny (model prog w) A (call (.builtin "sum") [.ref l]) Q E s := by
  refine call_sum_walkG (wpAny_pyIter_tuple hl ?_)
  have hlt : l < s.heap.objs.size := by
    obtain ⟨o, e, _⟩ := hl
    exact Heap.lt_size e
  refine ⟨s.heap.objs.size, [s.heap.objs.size, l], [s.heap.objs.size], _, _, _, numAt xs, rfl, Walks.tuple (A := A.in1) hh s.heap.objs.size l (Nat.ne_of_lt hlt) (intItems xs), ⟨⟨_, Heap.get?_push_size _ rfl, rfl, rfl⟩, hl.push _⟩, fun b hb => ?_, (fun _ _ => intItems_at), fun h' tk t' hk => ?_⟩
  · rw [Heap.size_push]
    rcases List.mem_cons.mp hb with e | e
    · subst e; exact Nat.lt_succ_self _
    · have e2 : b = l := by simpa using e
      subst e2
      exact Nat.lt_succ_of_lt hlt
  · have := h h' tk t' fun b o e => hk b o (by
      intro z
      have e2 : b = s.heap.objs.size := by simpa using z
      exact absurd (Heap.lt_size e) (by rw [e2]; exact Nat.lt_irrefl _)) (Heap.get?_push_of_some _ e)
    simpa [intItems] using this
def rSumT (K : PySem.W.Frag) : List V → Hp → VK → Prop := fun vs H Q => ∃ (a : Addr) (ns : List Int), vs = [V.ref a] ∧ SqT K H a (ns.map V.int) ∧ Q (.int ns.sum) H
theorem cr_sumT (hc : X.calm = true) : CallR X (.builtin "sum") (rSumT X.K) := by
  intro pins s σ H vs us Q I r h
  obtain ⟨a, ns, rfl, hs, q⟩ := h
  obtain ⟨its, rv, hl, _⟩ := I.tuple hs
  rw [Vals.ref1 r]
  have hi := rv.ints
  obtain ⟨xs, e⟩ := hi.allInts.items
  have hn : numsOf (intItems xs).toList = ns := by rw [← e]; exact hi.numsOf
  rw [nums_intItems] at hn
  have hl : s.heap.IsTuple a its.toArray := hl
  rw [e] at hl
  refine sum_tupG (I.ok.hd hc) hl fun h' tk t' hk => ?_
  rw [preSum_eq, List.take_of_length_le (by simp), hn]
  exact ⟨.int _, H, I.kept hk, ⟨_, rfl⟩, q⟩
theorem RepV.tyX {K : PySem.W.Frag} {d : D} {v : V} {g : String} (r : RepV K cs F H d v) (fin : FIn F H) (h : tagOf d = some g) : TyX K H v (.type g) := by
  cases r with
  | fz q =>
    cases q with
    | non => cases h; exact .base .non
    | bl b => cases h; exact .base (.bl b)
    | int b => cases h; exact .base (.int b)
    | str b => cases h; exact .base (.str b)
    | ty n => cases h
    | cls _ _ => cases h
    | dic0 a => cases h; exact .base (.dK (fin.2 _ _ a))
    | obj _ _ _ => cases h
    | tup a b =>
      cases h
      rcases fin.sqt a with (e | ⟨o, e⟩) | ⟨o, its, n, e, c, _⟩
      · exact .base (.tup e)
      · exact .fTuple e
      · exact .kTuple e c
    | lst a b =>
      cases h
      rcases fin.sql a with (e | ⟨o, e⟩) | ⟨its, n, e, _⟩
      · exact .base (.lst e)
      · exact .base (.frz e)
      · exact .kList e rfl
  | ol e q => cases h; exact .base (.lst e)
inductive RepVs (K : PySem.W.Frag) (cs : Cst) (F H : Hp) : List D → List V → Prop where
  | nil : RepVs K cs F H [] []
  | cons {d : D} {v : V} {ds : List D} {vs : List V} : RepV K cs F H d v → RepVs K cs F H ds vs → RepVs K cs F H (d :: ds) (v :: vs)
def rIsiS (K : PySem.W.Frag) : List V → Hp → VK → Prop := fun xs H Q => ∃ x tp cs t ws b, xs = [x, .ref tp] ∧ SqT K H tp cs ∧ Paired ClsV cs ws ∧ TyX K H x t ∧ PySem.W.kitAny K t ws = some b ∧ Q (.bl b) H
theorem call_isiS : CallR X (.builtin "isinstance") (rIsiS X.K) := by
  intro pins s σ H xs us Q I r h
  obtain ⟨x, tp, cs, t, ws, b, rfl, hT, k, ty, e, q⟩ := h
  obtain ⟨u1, u2, rfl, r1, r2⟩ := vals2 r
  cases (show u2 = Value.ref tp from r2)
  obtain ⟨P, Z, p, hx⟩ := kit_of I r1 ty
  obtain ⟨its, rv, ⟨o, h1, h2, n, h3⟩, hz⟩ := I.tuple hT
  have e3 := ClsV.all k rv
  subst e3
  obtain ⟨oc, od, dt, sl⟩ := o
  simp only at h2 h3
  subst h2 h3
  exact PySem.W.kia_tup Z I.kIn p h1 e hx fun tk => ⟨.bl b, H, I.tok tk, rfl, q⟩
theorem isi_any {K : PySem.W.Frag} {g : String} : ∀ {ts : List D} {b : Bool} {vs : List V}, isiAny g ts = some b → RepDs K cs F ts vs → ∃ us, Paired ClsV vs us ∧ PySem.W.kitAny K (.type g) us = some b
  | [], b, _, h, .nil => ⟨[], .nil, by cases h; exact kitAny_nil⟩
  | .ty n :: ts, b, _, h, .cons q r => by
    cases q
    unfold isiAny at h
    split at h
    · rename_i e
      obtain ⟨c, hc, e2⟩ := Option.map_eq_some_iff.mp h
      subst e2
      obtain ⟨us, p, k⟩ := isi_any hc r
      exact ⟨.type n :: us, .cons (.ty n) p, kitAny_cons (kit_ty e) (fun z => by cases z) fun _ => rfl⟩
    · rename_i e
      obtain ⟨us, p, k⟩ := isi_any h r
      exact ⟨.type n :: us, .cons (.ty n) p, kitAny_cons (kit_ty e) (fun _ => k) fun z => by cases z⟩
    · cases h
  | .non :: _, _, _, h, _ => by cases h
  | .bl _ :: _, _, _, h, _ => by cases h
  | .int _ :: _, _, _, h, _ => by cases h
  | .str _ :: _, _, _, h, _ => by cases h
  | .tup _ :: _, _, _, h, _ => by cases h
  | .lst _ :: _, _, _, h, _ => by cases h
  | .dic _ :: _, _, _, h, _ => by cases h
  | .obj _ _ _ :: _, _, _, h, _ => by cases h
  | .cls _ :: _, _, _, h, _ => by cases h
theorem RepVs.one {K : PySem.W.Frag} {d : D} {xs : List V} (r : RepVs K cs F H [d] xs) : ∃ v, xs = [v] ∧ RepV K cs F H d v := by
  cases r with
  | cons h r => cases r; exact ⟨_, rfl, h⟩
theorem RepVs.two {K : PySem.W.Frag} {d e : D} {xs : List V} (r : RepVs K cs F H [d, e] xs) : ∃ v w, xs = [v, w] ∧ RepV K cs F H d v ∧ RepV K cs F H e w := by
  cases r with
  | cons h r =>
    cases r with
    | cons g r => cases r; exact ⟨_, _, rfl, h, g⟩
theorem tag_mem {d : D} {g : String} (h : tagOf d = some g) : g ∈ tags := by
  cases d <;> simp only [tagOf, Option.some.injEq] at h <;> first | (cases h; done) | (subst h; decide)
theorem bi_ok {n : Bi} {ds : List D} {t : T} {xs : List V} {Q : VK} (hc : X.calm = true) (h : biF n ds = some t) (r : Rel X.K cs F H env σ) (rs : RepVs X.K cs F H ds xs) (q : Gives X.K cs F H env σ t Q) :
    ∃ r : List V → Hp → VK → Prop, CallR X n.val r ∧ r xs H Q := by
  unfold biF at h
  split at h
  · cases h
    obtain ⟨v, rfl, rx⟩ := rs.one
    obtain ⟨p, vs, rfl, h1, r1⟩ := rx.sql r.fin
    exact ⟨_, call_len_seq, p, vs, rfl, .inl h1, q.stay r (by rw [← r1.length]; exact .int _)⟩
  · cases h
    obtain ⟨v, rfl, rx⟩ := rs.one
    obtain ⟨p, vs, rfl, h1, r1⟩ := rx.sqt r.fin
    exact ⟨_, call_len_seq, p, vs, rfl, .inr h1, q.stay r (by rw [← r1.length]; exact .int _)⟩
  · split at h
    · rename_i hz
      cases h
      obtain ⟨v, rfl, rx⟩ := rs.one
      cases rx.str
      exact ⟨_, call_len_str, _, rfl, hz, q.stay r (.int _)⟩
    · cases h
  · cases h
    obtain ⟨v, rfl, rx⟩ := rs.one
    obtain ⟨p, vs, rfl, h1, r1⟩ := rx.sql r.fin
    exact ⟨_, call_list_of, p, vs, rfl, .inl h1, q.lst r r1⟩
  · cases h
    obtain ⟨v, rfl, rx⟩ := rs.one
    obtain ⟨p, vs, rfl, h1, r1⟩ := rx.sqt r.fin
    exact ⟨_, call_list_of, p, vs, rfl, .inr h1, q.lst r r1⟩
  · cases h
    obtain ⟨v, rfl, rx⟩ := rs.one
    obtain ⟨p, vs, rfl, h1, r1⟩ := rx.sql r.fin
    exact ⟨_, call_tuple_of, p, vs, rfl, .inl ⟨h1, q.tup r r1⟩⟩
  · cases h
    obtain ⟨v, rfl, rx⟩ := rs.one
    obtain ⟨p, vs, rfl, h1, r1⟩ := rx.sqt r.fin
    refine ⟨_, call_tuple_of, p, vs, rfl, .inr ⟨h1, ?_⟩⟩
    cases rx with
    | fz h => exact q.stay r h
  · split at h
    · rename_i c
      cases h
      obtain ⟨v, rfl, rx⟩ := rs.one
      obtain ⟨p, vs, rfl, h1, r1⟩ := rx.sql r.fin
      rw [r1.bls c] at h1
      exact ⟨_, cr_all hc, p, _, rfl, h1, by rw [List.all_map]; exact q.stay r (.bl _)⟩
    · cases h
  · split at h
    · rename_i c
      cases h
      obtain ⟨v, rfl, rx⟩ := rs.one
      obtain ⟨p, vs, rfl, h1, r1⟩ := rx.sql r.fin
      rw [r1.bls c] at h1
      exact ⟨_, cr_any hc, p, _, rfl, h1, by rw [List.any_map]; exact q.stay r (.bl _)⟩
    · cases h
  · split at h
    · rename_i c
      cases h
      obtain ⟨v, rfl, rx⟩ := rs.one
      obtain ⟨p, vs, rfl, h1, r1⟩ := rx.sql r.fin
      rw [r1.ints c] at h1
      exact ⟨_, cr_sum hc, p, _, rfl, h1, q.stay r (.int _)⟩
    · cases h
  · split at h
    · rename_i c
      cases h
      obtain ⟨v, rfl, rx⟩ := rs.one
      obtain ⟨p, vs, rfl, h1, r1⟩ := rx.sqt r.fin
      rw [r1.ints c] at h1
      exact ⟨_, cr_sumT hc, p, _, rfl, h1, q.stay r (.int _)⟩
    · cases h
  · cases h
    obtain ⟨v, rfl, rx⟩ := rs.one
    cases rx.int
    exact ⟨_, call_abs, _, rfl, q.stay r (.int _)⟩
  · cases h
    obtain ⟨v, rfl, rx⟩ := rs.one
    cases rx.int
    exact ⟨_, call_int1, .inl ⟨_, rfl, q.stay r (.int _)⟩⟩
  · cases h
    obtain ⟨v, rfl, rx⟩ := rs.one
    cases rx.bl
    exact ⟨_, call_int1, .inr ⟨_, rfl, q.stay r (.int _)⟩⟩
  · cases h
    obtain ⟨v, w, rfl, rx, ry⟩ := rs.two
    cases rx.int
    cases ry.int
    exact ⟨_, call_min2 hc, _, _, rfl, q.stay r (.int _)⟩
  · cases h
    obtain ⟨v, w, rfl, rx, ry⟩ := rs.two
    cases rx.int
    cases ry.int
    exact ⟨_, call_max2 hc, _, _, rfl, q.stay r (.int _)⟩
  · split at h
    · rename_i g eg
      obtain ⟨b, hb, e⟩ := Option.map_eq_some_iff.mp h
      subst e
      obtain ⟨v, w, rfl, rx, ry⟩ := rs.two
      cases ry.ty
      exact ⟨_, call_isi, v, _, .type g, _, b, rfl, .ty _, rx.tyX r.fin eg, kit_ty hb, q.stay r (.bl b)⟩
    · cases h
  · obtain ⟨v, w, rfl, rx, ry⟩ := rs.two
    cases ry with
    | fz ry =>
      cases ry with
      | @cls c a hc ot =>
        split at h
        · rename_i c2 ns ds
          split at h
          · rename_i e
            subst e
            cases h
            cases rx with
            | fz rx =>
              cases rx with
              | @obj _ _ _ a2 C dx fs hF o rd =>
                have e2 : C = a := by
                  have := o.at_
                  rw [hc] at this
                  exact (Option.some.inj this).symm
                subst e2
                refine ⟨_, call_isi, _, _, .ref C, .ref C, true, rfl, .own _, .base (.ins (r.fin.2 _ _ hF) o.cls o.ty.ha o.ty.hn o.ty.ht o.ty.hm), ?_, q.stay r (.bl true)⟩
                unfold PySem.W.kitOne
                rw [if_pos (by simp)]
          · cases h
        · split at h
          · rename_i g eg
            cases h
            refine ⟨_, call_isi, v, _, .type g, .ref a, false, rfl, .own _, rx.tyX r.fin eg, ot.kit g (tag_mem eg), q.stay r (.bl false)⟩
          · cases h
  · split at h
    · rename_i ts g eg
      obtain ⟨b, hb, e⟩ := Option.map_eq_some_iff.mp h
      subst e
      obtain ⟨v, w, rfl, rx, ry⟩ := rs.two
      cases ry with
      | fz ry =>
        cases ry with
        | tup a r1 =>
          obtain ⟨us, p, k⟩ := isi_any (K := X.K) hb r1
          exact ⟨_, call_isiS, v, _, _, .type g, us, b, rfl, r.fin.sqt a, p, rx.tyX r.fin eg, k, q.stay r (.bl b)⟩
    · cases h
  · cases h
theorem un_ok {i : Int} {x : V} {Q : VK} (r : Rel X.K cs F H env σ) (rx : RepV X.K cs F H (.int i) x) (q : Gives X.K cs F H env σ (.d (.int (-i))) Q) : ∃ r : V → Hp → VK → Prop, UnR X (unaryOp .USub) r ∧ r x H Q := by
  cases rx.int
  exact ⟨_, un_neg, _, rfl, q.stay r (.int _)⟩
end
end AM

set_option maxHeartbeats 4000000
/-! the core text against the row's own text, sign by sign -/
namespace AM
open PySem PyProof.Rows L2

/-- the names of the text: of the defs, of the built-ins that are free, of the constants, of the error classes; which of these have no __init__ -/
structure Ck where
  nm : List Str
  fr : List Str
  gl : List Str
  xc : List Str
  xp : List Nat
  oc : List Str
  pr : List (Nat × Nat × Str)
  eqs : List (Nat × Nat)

def visB (sc : Scope) (x : Str) : Bool := match sc.names.lookup x with
  | some .local => true | some .cell => true | some .free => true
  | _ => false
def locB (sc : Scope) (x : Str) : Bool := match sc.names.lookup x with
  | some .local => true | some .cell => true
  | _ => false
def lclB (sc : Scope) (x : Str) : Bool := match sc.names.lookup x with
  | some .local => true
  | _ => false
def glB (sc : Scope) (x : Str) : Bool := (match sc.names.lookup x with
  | some .globalImplicit => true
  | _ => false) && !(x == ("__debug__" : Str)) && !(x == ("__name__" : Str))
def nameB (N : List Str) (sc : Scope) (i : Nat) (x : Str) : Bool := decide (N[i]? = some x) && visB sc x && !(x == ("__debug__" : Str)) && !(x == ("__classdict__" : Str))
def cstB : D → Const → Bool
  | .non, .none => true
  | .bl b, .bool c => b == c
  | .int i, .int j => i == j
  | .str x, .str y => decide (x = y)
  | _, _ => false
def isSet : Expr → Bool
  | .Set _ _ _ => true
  | _ => false
def isSlice : Expr → Bool
  | .Slice _ _ _ _ => true
  | _ => false
/-- a test that is just an expression's truth -/
def plainT : Expr → Bool
  | .UnaryOp .Not _ _ => false
  | .BoolOp _ _ _ => false
  | .IfExp _ _ _ _ => false
  | .Compare _ _ _ _ => false
  | _ => true
mutual
def chkPt (N : List Str) (sc : Scope) : Pt → Expr → Bool
  | .name i, .Name x _ => decide (N[i]? = some x) && locB sc x
  | .tup ps, .Tuple es _ _ => chkPts N sc ps es
  | _, _ => false
def chkPts (N : List Str) (sc : Scope) : Pts → List Expr → Bool
  | .nil, [] => true
  | .cons p ps, e :: es => chkPt N sc p e && chkPts N sc ps es
  | _, _ => false
end
def isTup : Expr → Bool
  | .Tuple _ _ _ => true
  | _ => false
/-- pairs are taken apart at once -/
def tgtB : It → Expr → Bool
  | .enum _, e => isTup e
  | .zip _, e => isTup e
  | _, _ => true
/-- what super() is not -/
def baseB : Expr → Bool
  | .Call _ [] [] _ => false
  | _ => true
mutual
def chkE (G : Ck) (N : List Str) (sc : Scope) (t : Bool) : E → Expr → Bool
  | .cst d, .Constant c _ _ => cstB d c
  | .var i, .Name x _ => nameB N sc i x
  | .vw i, .Name x _ => nameB N sc i x
  | .glob x, .Name y _ => decide (x = y) && glB sc y && decide (y ∈ G.gl)
  | .prim p es, .BinOp x o y _ => (match p with | .bin o' => decide (o' = o) | _ => false) && chkEs G N sc es [x, y]
  | .prim p es, .UnaryOp .USub x _ => (match p with | .neg => true | _ => false) && chkEs G N sc es [x]
  | .prim p es, .Compare x [o] [y] _ => (match p with | .cmp o' => decide (o' = o) | _ => false) && !isSet y && chkEs G N sc es [x, y]
  | .sl e lo hi, .Subscript x (.Slice a b none _) _ => chkE G N sc false e x && chkP G N sc lo a && chkP G N sc hi b
  | .prim p es, .Subscript x y _ => (match p with | .ix => true | _ => false) && !isSlice y && chkEs G N sc es [x, y]
  | .prim p es, .Call (.Name x _) (a :: as) [] _ => (match p with | .bi n => decide (x = Str.ofString n.name) | _ => false) && glB sc x && decide (x ∈ G.fr) && chkEs G N sc es (a :: as)
  | .prim p es, .Tuple xs _ _ => (match p with | .tup => true | _ => false) && es.slots.all Option.isNone && chkEs G N sc es xs
  | .prim p es, .List xs _ => (match p with | .lst => true | _ => false) && es.slots.all Option.isNone && chkEs G N sc es xs
  | .prim p es, .Dict [] [] _ => (match p with | .dic => true | _ => false) && (match es with | .nil => true | _ => false)
  | .and a b, .BoolOp .And (x :: y :: r) pos => chkE G N sc t a x && chkE G N sc t b (.BoolOp .And (y :: r) pos)
  | .or a b, .BoolOp .Or (x :: y :: r) pos => chkE G N sc t a x && chkE G N sc t b (.BoolOp .Or (y :: r) pos)
  | .one a, .BoolOp _ [x] _ => chkE G N sc t a x
  | .not a, .UnaryOp .Not x _ => chkE G N sc t a x
  | .ife c a b, .IfExp c' a' b' _ => !t && chkE G N sc true c c' && chkE G N sc false a a' && chkE G N sc false b b'
  | .chain o1 o2 a b c, .Compare a' [o1', o2'] [b', c'] _ => decide (o1 = o1') && decide (o2 = o2') && !isSet b' && !isSet c' && chkE G N sc false a a' && chkE G N sc false b b' && chkE G N sc false c c'
  | .call f es, .Call (.Name x _) as [] _ => decide (G.nm[f]? = some x) && decide (x ≠ "") && glB sc x && chkEs G N sc es as
  | .lc own p it ifs e, .ListComp elt [⟨tg, iter, ifs', 0⟩] scope _ => blkC N sc scope own && chkPt N scope p tg && tgtB it tg && decide (∀ i ∈ p.slots, i ∈ own.map (·.2)) && chkI G N sc it iter && chkO G N (relS scope sc) ifs ifs' && chkE G N (relS scope sc) false e elt
  | .pop i es, .Call (.Attribute (.Name x _) m apos) as [] pos => nameB N sc i x && decide (m = Str.ofString "pop") && (apos.endLine == pos.line) && decide (as.length ≤ 1) && chkEs G N sc es as
  | .fld a x, .Attribute e y _ => decide (x = y) && baseB e && chkE G N sc false a e
  | .prop c n x a, .Attribute e y _ => decide (x = y) && decide ((c, n, x) ∈ G.pr) && baseB e && chkE G N sc false a e
  | .oeq c n ne a b, .Compare x [o] [y] _ => decide ((c, n) ∈ G.eqs) && (decide (o = .Eq) && !ne || decide (o = .NotEq) && ne) && !isSet y && chkE G N sc false a x && chkE G N sc false b y
  | .tru a, x => t && plainT x && chkE G N sc false a x
  | _, _ => false
def chkO (G : Ck) (N : List Str) (sc : Scope) : Oe → List Expr → Bool
  | .no, [] => true
  | .yes c, [x] => chkE G N sc true c x
  | _, _ => false
def chkP (G : Ck) (N : List Str) (sc : Scope) : Oe → Option Expr → Bool
  | .no, none => true
  | .yes c, some x => chkE G N sc false c x
  | _, _ => false
def chkEs (G : Ck) (N : List Str) (sc : Scope) : Es → List Expr → Bool
  | .nil, [] => true
  | .cons e es, x :: xs => chkE G N sc false e x && chkEs G N sc es xs
  | _, _ => false
def chkI (G : Ck) (N : List Str) (sc : Scope) : It → Expr → Bool
  | .seq e, x => !isSet x && chkE G N sc false e x
  | .rng es, .Call (.Name x _) as [] _ => decide (x = ("range" : Str)) && glB sc x && decide (x ∈ G.fr) && (as.length == 1 || as.length == 2) && chkEs G N sc es as
  | .enum e, .Call (.Name x _) [a] [] _ => decide (x = ("enumerate" : Str)) && glB sc x && decide (x ∈ G.fr) && chkE G N sc false e a
  | .zip es, .Call (.Name x _) [a, b] [] _ => decide (x = ("zip" : Str)) && glB sc x && decide (x ∈ G.fr) && chkEs G N sc es [a, b]
  | _, _ => false
end
end AM

set_option maxHeartbeats 4000000
/-! how an answer of the evaluator is read as a wish -/
namespace AM
open PySem PySem.Spec PyProof.Rows L2

/-- an error: its class, its own dict with its fields -/
def RepX (K : PySem.W.Frag) (cs : Cst) (F H : Hp) (x : AM.X) (cl : Value) (d : Option Addr) : Prop := ∃ a, cs x.c = some a ∧ cl = .ref a ∧ x.ds = [] ∧ d = none

def Fit {α : Type} (r : R α) (Wx : AM.X → AM.Env → Prop) (Kk : α → AM.Env → Prop) : Prop := match r with
  | .ok a env => Kk a env
  | .ex x env => Wx x env
  | .no => False
theorem Fit.bind {α β : Type} {r : R α} {f : α → AM.Env → R β} {Wx : AM.X → AM.Env → Prop} {Kk : β → AM.Env → Prop} (h : Fit (r.bind f) Wx Kk) : Fit r Wx fun a env => Fit (f a env) Wx Kk := by
  cases r <;> exact h
theorem Fit.mono {α : Type} {r : R α} {Wx Wx' : AM.X → AM.Env → Prop} {Kk Kk' : α → AM.Env → Prop} (h : Fit r Wx Kk) (hw : ∀ x env, Wx x env → Wx' x env) (hk : ∀ a env, Kk a env → Kk' a env) : Fit r Wx' Kk' := by
  cases r with
  | ok a env => exact hk _ _ h
  | ex x env => exact hw _ _ h
  | no => exact h

section
variable {K : PySem.W.Frag} {cs : Cst} {C : Cl} {W : WX} {F H F1 H1 : Hp} {env env1 : AM.Env} {σ : L2.St}

def WxOf (W : WX) (K : PySem.W.Frag) (cs : Cst) (F H : Hp) (env : AM.Env) (σ : L2.St) : AM.X → AM.Env → Prop := fun x env' =>
  ∀ cl d F' H', Ext F H (Own env σ) F' H' (Own env' σ) → Rel K cs F' H' env' σ → RepX K cs F' H' x cl d → W cl d σ H'
def KeOf (K : PySem.W.Frag) (cs : Cst) (F H : Hp) (env : AM.Env) (σ : L2.St) (Q : VK) : T → AM.Env → Prop := fun t env' => ∀ v F' H', Post K cs F H env σ F' H' env' t v → Q v H'
def KbOf (K : PySem.W.Frag) (cs : Cst) (F H : Hp) (env : AM.Env) (σ : L2.St) (Q : Bool → Hp → Prop) : Bool → AM.Env → Prop := fun b env' => ∀ F' H', Ext F H (Own env σ) F' H' (Own env' σ) → Rel K cs F' H' env' σ → Q b H'
theorem WxOf.move (x : Ext F H (Own env σ) F1 H1 (Own env1 σ)) {e : AM.X} {env' : AM.Env} (h : WxOf W K cs F H env σ e env') : WxOf W K cs F1 H1 env1 σ e env' := fun cl d F' H' x2 r q => h cl d F' H' (x.trans x2) r q
theorem KeOf.move {Q : VK} (x : Ext F H (Own env σ) F1 H1 (Own env1 σ)) {t : T} {env' : AM.Env} (h : KeOf K cs F H env σ Q t env') : KeOf K cs F1 H1 env1 σ Q t env' := fun v F' H' p => h v F' H' (p.after x)
theorem KbOf.move {Q : Bool → Hp → Prop} (x : Ext F H (Own env σ) F1 H1 (Own env1 σ)) {t : Bool} {env' : AM.Env} (h : KbOf K cs F H env σ Q t env') : KbOf K cs F1 H1 env1 σ Q t env' := fun F' H' x2 r => h F' H' (x.trans x2) r

/-- the readings -/
def tE (W : WX) (K : PySem.W.Frag) (cs : Cst) (C : Cl) (c : E) : TE := fun σ H Q => ∃ F env, Rel K cs F H env σ ∧ Fit (evE C c env) (WxOf W K cs F H env σ) (KeOf K cs F H env σ Q)
def tT (W : WX) (K : PySem.W.Frag) (cs : Cst) (C : Cl) (c : E) : TT := fun σ H Q => ∃ F env, Rel K cs F H env σ ∧ Fit ((evE C c env).bl) (WxOf W K cs F H env σ) (KbOf K cs F H env σ Q)
def tO (W : WX) (K : PySem.W.Frag) (cs : Cst) (C : Cl) (c : E) : TE := match slotOf c with
  | some i => tVar i
  | none => tE W K cs C c
def tOs (W : WX) (K : PySem.W.Frag) (cs : Cst) (C : Cl) : Es → TA
  | .nil => tNil
  | .cons e es => tCons (tO W K cs C e) (tOs W K cs C es)
theorem tE.mono {c : E} {Q Q' : VK} (h : tE W K cs C c σ H Q) (q : ∀ v H', Q v H' → Q' v H') : tE W K cs C c σ H Q' := by
  obtain ⟨F, env, r, f⟩ := h
  exact ⟨F, env, r, f.mono (fun _ _ z => z) fun t env' z v F' H' p => q _ _ (z v F' H' p)⟩
theorem tO.mono {c : E} {Q Q' : VK} (h : tO W K cs C c σ H Q) (q : ∀ v H', Q v H' → Q' v H') : tO W K cs C c σ H Q' := by
  unfold tO at h ⊢
  cases hs : slotOf c with
  | some i =>
    rw [hs] at h
    obtain ⟨v, e, z⟩ := h
    exact ⟨v, e, q _ _ z⟩
  | none =>
    rw [hs] at h
    exact tE.mono h q
theorem tOs.mono : ∀ {es : Es} {H : Hp} {Q Q' : List V → Hp → Prop}, tOs W K cs C es σ H Q → (∀ v H', Q v H' → Q' v H') → tOs W K cs C es σ H Q'
  | .nil, _, _, _, h, q => q _ _ h
  | .cons e es, _, _, _, h, q => tO.mono h fun v H' z => tOs.mono z fun vs H2 z => q _ _ z
theorem slotOf_some : ∀ {e : E} {i : Nat}, slotOf e = some i → e = .vw i := fun {e i} h => by
  cases e <;> first | (cases h; done) | (cases h; rfl)
theorem Rel.get {i : Nat} {t : T} (r : Rel K cs F H env σ) (h : env.getD i none = some t) : ∃ v, σ[i]? = some (some v) ∧ RepT K cs F H t v := by
  refine r.slot i t ?_
  rw [List.getD_eq_getElem?_getD] at h
  cases e : env[i]? with
  | none => rw [e] at h; cases h
  | some o =>
    rw [e] at h
    have h : o = some t := h
    rw [h]
theorem getD_some {i : Nat} {t : T} (h : env.getD i none = some t) : env[i]? = some (some t) := by
  rw [List.getD_eq_getElem?_getD] at h
  cases e : env[i]? with
  | none => rw [e] at h; cases h
  | some o =>
    rw [e] at h
    have h : o = some t := h
    rw [h]
/-- from a state, a value frozen: the state that keeps it -/
theorem RepV.mono {F' : Hp} {d : D} {v : V} (h : RepD K cs F d v) (s : Sub F F') {H' : Hp} : RepV K cs F' H' d v := .fz (h.mono s)

/-- the operands, from the left; what is only looked at is looked at behind all of them -/
theorem ops_run : ∀ (es : Es) {F H : Hp} {env : AM.Env} {Kk : List D → AM.Env → Prop}, Rel K cs F H env σ → Fit (evEs C es env) (WxOf W K cs F H env σ) Kk →
    tOs W K cs C es σ H fun xs H2 => ∃ F2 ds env2, Ext F H (Own env σ) F2 H2 (Own env2 σ) ∧ Rel K cs F2 H2 env2 σ ∧ RepVs K cs F2 H2 ds xs ∧ Kk ds env2
  | .nil, F, H, env, Kk, r, f => ⟨F, [], env, Ext.refl _ _ _, r, .nil, f⟩
  | .cons e es, F, H, env, Kk, r, f => by
    unfold evEs at f
    cases hs : slotOf e with
    | some i =>
      rw [hs] at f
      simp only at f
      show tO W K cs C e σ H _
      unfold tO
      rw [hs]
      split at f
      · rename_i t0 h0
        obtain ⟨v, hv, _⟩ := r.get h0
        refine ⟨v, hv, tOs.mono (ops_run es r f.bind) fun xs H2 ⟨F2, ds, env2, x, r2, rs, k⟩ => ?_⟩
        split at k
        · rename_i t ht
          obtain ⟨w, hw, rt⟩ := r2.get ht
          rw [hv] at hw; cases hw
          exact ⟨F2, _, env2, x, r2, .cons rt.snap rs, k⟩
        · exact k.elim
      · exact f.elim
    | none =>
      rw [hs] at f
      simp only at f
      show tO W K cs C e σ H _
      unfold tO
      rw [hs]
      refine ⟨F, env, r, f.bind.mono (fun _ _ z => z) fun t env1 g v F1 H1 p => ?_⟩
      obtain ⟨F2, p2, s⟩ := p.kept
      refine tOs.mono (ops_run es p2.rel (g.bind.mono (fun _ _ z => WxOf.move p2.ext z) fun _ _ z => z)) fun xs H2 ⟨F3, ds, env2, x, r2, rs, k⟩ => ?_
      exact ⟨F3, _, env2, p2.ext.trans x, r2, .cons (.fz (RepD.mono x.fr p2.rep)) rs, k⟩
end
end AM

set_option maxHeartbeats 4000000
/-! calls: what is handed in, what is handed back -/
namespace AM
open PySem PySem.Spec PyProof.Rows L2

def spreadE (n : Nat) (io : List Nat) (outs : AM.Env) : AM.Env := (List.range n).map fun j => match (io.zip outs).lookup j with
  | some o => o
  | none => none
theorem spreadE_length (n : Nat) (io : List Nat) (outs : AM.Env) : (spreadE n io outs).length = n := by simp [spreadE]
theorem spreadE_some {n : Nat} {io : List Nat} {outs : AM.Env} {j : Nat} {t : T} (h : (spreadE n io outs)[j]? = some (some t)) : j < n ∧ (io.zip outs).lookup j = some (some t) := by
  unfold spreadE at h
  rw [List.getElem?_map] at h
  cases e : (List.range n)[j]? with
  | none => rw [e] at h; cases h
  | some i =>
    rw [e] at h
    have hj : j < n := by
      have := (List.getElem?_eq_some_iff.mp e).1
      simpa using this
    have ij : i = j := by
      have := (List.getElem?_eq_some_iff.mp e).2
      simpa using this.symm
    subst ij
    refine ⟨hj, ?_⟩
    cases q : (io.zip outs).lookup i with
    | none =>
      rw [Option.map_some, q] at h
      cases h
    | some o =>
      rw [Option.map_some, q] at h
      cases h
      rfl
theorem lookup_mem {α : Type} : ∀ {l : List (Nat × α)} {j : Nat} {o : α}, l.lookup j = some o → (j, o) ∈ l
  | [], _, _, h => by cases h
  | (a, b) :: l, j, o, h => by
    rw [List.lookup_cons] at h
    split at h
    · rename_i e
      cases h
      have : j = a := by simpa using e
      subst this
      exact List.mem_cons_self
    · exact List.mem_cons_of_mem _ (lookup_mem h)
theorem mem_lookup {α : Type} : ∀ {l : List (Nat × α)} {j : Nat} {o : α}, (j, o) ∈ l → (l.map (·.1)).Nodup → l.lookup j = some o
  | [], _, _, h, _ => by cases h
  | (a, b) :: l, j, o, h, nd => by
    rw [List.lookup_cons]
    rw [List.map_cons, List.nodup_cons] at nd
    rcases List.mem_cons.mp h with e | e
    · cases e
      simp
    · have ne : (j == a) = false := by
        rw [beq_eq_false_iff_ne]
        intro z
        subst z
        exact nd.1 (List.mem_map.mpr ⟨(j, o), e, rfl⟩)
      rw [ne]
      exact mem_lookup e nd.2
theorem zip_fst_sub {α : Type} : ∀ (l : List Nat) (m : List α), ((l.zip m).map (·.1)).Sublist l
  | [], _ => by simp
  | _ :: _, [] => by simp
  | a :: l, b :: m => by
    rw [List.zip_cons_cons, List.map_cons]
    exact (zip_fst_sub l m).cons₂ a

section
variable {sl : List (Option Nat)}
theorem putOuts_length : ∀ (io : List Nat) (outs env : AM.Env), (putOuts io outs sl env).length = env.length
  | [], _, _ => by simp [putOuts]
  | _ :: _, [], _ => by simp [putOuts]
  | j :: io, o :: outs, env => by
    unfold putOuts
    rw [putOuts_length io outs]
    split <;> simp
theorem putOuts_out {i : Nat} : ∀ (io : List Nat) (outs env : AM.Env), (∀ j o, (j, o) ∈ io.zip outs → sl.getD j none ≠ some i) → (putOuts io outs sl env)[i]? = env[i]?
  | [], _, _, _ => by simp [putOuts]
  | _ :: _, [], _, _ => by simp [putOuts]
  | j :: io, o :: outs, env, h => by
    unfold putOuts
    rw [putOuts_out io outs _ fun j' o' hm => h j' o' (by rw [List.zip_cons_cons]; exact List.mem_cons_of_mem _ hm)]
    have hj := h j o (by rw [List.zip_cons_cons]; exact List.mem_cons_self)
    split
    · rename_i i' e
      rw [e] at hj
      rw [List.getElem?_set_ne (fun z => hj (by rw [z]))]
    · rfl
theorem putOuts_in {i j : Nat} {o : Option T} : ∀ (io : List Nat) (outs env : AM.Env), (j, o) ∈ io.zip outs → sl.getD j none = some i → (io.map fun j => sl.getD j none).Nodup → i < env.length → (putOuts io outs sl env)[i]? = some o
  | [], _, _, h, _, _, _ => by simp at h
  | _ :: _, [], _, h, _, _, _ => by simp at h
  | j' :: io, o' :: outs, env, h, e, nd, hi => by
    unfold putOuts
    rw [List.map_cons, List.nodup_cons] at nd
    rw [List.zip_cons_cons] at h
    rcases List.mem_cons.mp h with q | q
    · cases q
      rw [putOuts_out io outs]
      · rw [e]
        simp [hi]
      · intro j2 o2 hm z
        exact nd.1 (List.mem_map.mpr ⟨j2, (zip_fst_sub io outs).subset (List.mem_map.mpr ⟨_, hm, rfl⟩), by rw [e, z]⟩)
    · refine putOuts_in io outs _ q e nd.2 ?_
      split <;> simpa using hi
end

/-- what a def promises: as the evaluator answers -/
def spF (P : Tx) (k f : Nat) (K : PySem.W.Frag) (cs : Cst) (np : Nat) : Sp := fun vs H Q E => ∃ F ts, ts.length = np ∧ Rel K cs F H (ts.map some) (vs.map some) ∧
  Fit (P.call k f ts) (fun x outs => WxOf (fun cl d _ H' => E cl d H') K cs F H (ts.map some) (vs.map some) x (spreadE np (P.io f) outs))
    (fun t outs => KeOf K cs F H (ts.map some) (vs.map some) Q t (spreadE np (P.io f) outs))
theorem spF_len {P : Tx} {k f : Nat} {K : PySem.W.Frag} {cs : Cst} {np : Nat} {vs : List V} {H : Hp} {Q : VK} {E : XK} (h : spF P k f K cs np vs H Q E) : vs.length = np := by
  obtain ⟨F, ts, e, r, _⟩ := h
  have := r.len
  rw [List.length_map, List.length_map] at this
  omega

section
variable {K : PySem.W.Frag} {cs : Cst} {F H F' H' : Hp} {env : AM.Env} {σ : L2.St} {io : List Nat} {sl : List (Option Nat)} {ts : List T} {vs : List V} {outs : AM.Env} {n : Nat}

/-- how the arguments lie: those that are slots, those that are values -/
structure Args (env : AM.Env) (σ : L2.St) (sl : List (Option Nat)) (ts : List T) (vs : List V) : Prop where
  len : ts.length = vs.length
  len2 : sl.length = ts.length
  at_ : ∀ (j i : Nat), sl.getD j none = some i → ∃ t v, ts[j]? = some t ∧ vs[j]? = some v ∧ env[i]? = some (some t) ∧ σ[i]? = some (some v)
  val : ∀ (j : Nat) (t : T), ts[j]? = some t → sl.getD j none = none → t.own = false
theorem Args.own (A : Args env σ sl ts vs) {p : Addr} (h : Own (ts.map some) (vs.map some) p) : ∃ j i, sl.getD j none = some i ∧ vs[j]? = some (.ref p) ∧ Own env σ p ∧ σ[i]? = some (some (.ref p)) := by
  obtain ⟨j, t, e, ow, ev⟩ := h
  rw [List.getElem?_map] at e ev
  have e1 : ts[j]? = some t := by
    cases q : ts[j]? with
    | none => rw [q] at e; cases e
    | some u => rw [q] at e; cases e; rfl
  have e2 : vs[j]? = some (.ref p) := by
    cases q : vs[j]? with
    | none => rw [q] at ev; cases ev
    | some u => rw [q] at ev; cases ev; rfl
  cases hs : sl.getD j none with
  | none => rw [A.val j t e1 hs] at ow; cases ow
  | some i =>
    obtain ⟨t', v', a, b, c, d⟩ := A.at_ j i hs
    rw [e1] at a; cases a
    rw [e2] at b; cases b
    exact ⟨j, i, hs, e2, ⟨i, t, c, ow, d⟩, d⟩
theorem ioOk_of (h : ioOk io sl = true) : (∀ j ∈ io, ∃ i, sl.getD j none = some i) ∧ (io.map fun j => sl.getD j none).Nodup ∧ ∀ j i, sl.getD j none = some i → j ∈ io := by
  unfold ioOk at h
  rw [Bool.and_eq_true, Bool.and_eq_true] at h
  obtain ⟨⟨h1, h2⟩, h3⟩ := h
  refine ⟨fun j hj => Option.isSome_iff_exists.mp (List.all_eq_true.mp h1 j hj), of_decide_eq_true h2, fun j i e => ?_⟩
  rw [List.getD_eq_getElem?_getD] at e
  cases q : sl[j]? with
  | none => rw [q] at e; cases e
  | some o =>
    rw [q] at e
    have e : o = some i := e
    subst e
    have hj : j < sl.length := (List.getElem?_eq_some_iff.mp q).1
    have hm : (some i, j) ∈ sl.zipIdx := by
      rw [List.mem_zipIdx_iff_getElem?]
      simpa using q
    have := List.all_eq_true.mp h3 _ hm
    simpa using this
/-- the caller's state behind a call that may change what its slots hold -/
theorem call_state (r : Rel K cs F H env σ) (A : Args env σ sl ts vs) (ok : ioOk io sl = true) (lo : outs.length = io.length) (x : Ext F H (Own (ts.map some) (vs.map some)) F' H' (Own (spreadE ts.length io outs) (vs.map some)))
    (r2 : Rel K cs F' H' (spreadE ts.length io outs) (vs.map some)) : Ext F H (Own env σ) F' H' (Own (putOuts io outs sl env) σ) ∧ Rel K cs F' H' (putOuts io outs sl env) σ ∧
      ∀ p, Own (putOuts io outs sl env) σ p → Own (spreadE ts.length io outs) (vs.map some) p ∨ (Own env σ p ∧ ¬ Own (ts.map some) (vs.map some) p) := by
  obtain ⟨h1, h2, h3⟩ := ioOk_of ok
  have ndio : (((io.zip outs)).map (·.1)).Nodup := by
    refine (zip_fst_sub io outs).nodup ?_
    exact (List.pairwise_map.mp h2).imp fun ne z => ne (by rw [z])
  -- a slot of the new state: either one that was handed in, or as it was
  have cls : ∀ (i : Nat) (t : T), (putOuts io outs sl env)[i]? = some (some t) →
      (∃ j v, sl.getD j none = some i ∧ (spreadE ts.length io outs)[j]? = some (some t) ∧ vs[j]? = some v ∧ σ[i]? = some (some v)) ∨
      (env[i]? = some (some t) ∧ ∀ j o, (j, o) ∈ io.zip outs → sl.getD j none ≠ some i) := by
    intro i t e
    by_cases q : ∃ j o, (j, o) ∈ io.zip outs ∧ sl.getD j none = some i
    · obtain ⟨j, o, hm, es⟩ := q
      left
      obtain ⟨t0, v, a, b, c, d⟩ := A.at_ j i es
      have hi : i < env.length := (List.getElem?_eq_some_iff.mp c).1
      have hj : j < ts.length := (List.getElem?_eq_some_iff.mp a).1
      rw [putOuts_in io outs env hm es h2 hi] at e
      cases e
      refine ⟨j, v, es, ?_, b, d⟩
      unfold spreadE
      rw [List.getElem?_map, List.getElem?_range hj, Option.map_some, mem_lookup hm ndio]
    · right
      have q' : ∀ j o, (j, o) ∈ io.zip outs → sl.getD j none ≠ some i := fun j o hm z => q ⟨j, o, hm, z⟩
      rw [putOuts_out io outs env q'] at e
      exact ⟨e, q'⟩
  have zipm : ∀ j ∈ io, ∃ o, (j, o) ∈ io.zip outs := fun j hj => by
    obtain ⟨n, hn, e⟩ := List.mem_iff_getElem.mp hj
    refine ⟨outs[n]'(by omega), ?_⟩
    refine List.mem_iff_getElem.mpr ⟨n, by rw [List.length_zip]; omega, ?_⟩
    rw [List.getElem_zip, e]
  have stay : ∀ (i : Nat) (t : T) (p : Addr), env[i]? = some (some t) → (∀ j o, (j, o) ∈ io.zip outs → sl.getD j none ≠ some i) → t.own = true → σ[i]? = some (some (.ref p)) → ¬ Own (ts.map some) (vs.map some) p := by
    intro i t p e q ow es z
    obtain ⟨j, i', hs, _, ⟨i2, t2, e2, ow2, es2⟩, es'⟩ := A.own z
    obtain ⟨t3, v3, a3, b3, c3, d3⟩ := A.at_ j i' hs
    have hj : j ∈ io := h3 j i' hs
    obtain ⟨o, ho⟩ := zipm j hj
    have i12 : i2 = i := r.sep i2 i t2 t p e2 e ow2 ow es2 es
    obtain ⟨j4, t4, e4, ow4, ev4⟩ := z
    -- the slot of that argument holds p, and so does slot i
    have hjo : Own env σ p := ⟨i, t, e, ow, es⟩
    have t3own : t3.own = true := by
      cases q3 : t3.own with
      | true => rfl
      | false =>
        exfalso
        rw [List.getElem?_map] at e4 ev4
        cases q4 : ts[j4]? with
        | none => rw [q4] at e4; cases e4
        | some u =>
          rw [q4] at e4; cases e4
          cases q5 : vs[j4]? with
          | none => rw [q5] at ev4; cases ev4
          | some w =>
            rw [q5] at ev4; cases ev4
            cases hs4 : sl.getD j4 none with
            | none => rw [A.val j4 t4 q4 hs4] at ow4; cases ow4
            | some i4 =>
              obtain ⟨t5, v5, a5, b5, c5, d5⟩ := A.at_ j4 i4 hs4
              rw [q4] at a5; cases a5
              rw [q5] at b5; cases b5
              have : i4 = i := r.sep i4 i t4 t p c5 e ow4 ow d5 es
              subst this
              obtain ⟨o4, ho4⟩ := zipm j4 (h3 j4 i4 hs4)
              exact q j4 o4 ho4 hs4
    have : i' = i := r.sep i' i t3 t p c3 e t3own ow es' es
    subst this
    exact q j o ho hs
  have third : ∀ p, Own (putOuts io outs sl env) σ p → Own (spreadE ts.length io outs) (vs.map some) p ∨ (Own env σ p ∧ ¬ Own (ts.map some) (vs.map some) p) := by
    rintro p ⟨i, t, e, ow, es⟩
    rcases cls i t e with ⟨j, v, hs, sp, hv, hσ⟩ | ⟨e1, q⟩
    · left
      rw [hσ] at es; cases es
      exact ⟨j, t, sp, ow, by rw [List.getElem?_map, hv]; rfl⟩
    · exact .inr ⟨⟨i, t, e1, ow, es⟩, stay i t p e1 q ow es⟩
  have backO : ∀ p, Own (ts.map some) (vs.map some) p ∨ H p = none → Own env σ p ∨ H p = none := fun p h => by
    rcases h with h | h
    · obtain ⟨_, _, _, _, o, _⟩ := A.own h
      exact .inl o
    · exact .inr h
  refine ⟨⟨x.fr, fun p o e n => x.keep p o e fun z => ?_, fun p a b => backO p (x.new p a b), fun p h => ?_⟩, ⟨?_, r2.fin, fun i t e => ?_, fun i j t u p e1 e2 o1 o2 s1 s2 => ?_⟩, third⟩
  · obtain ⟨_, _, _, _, o, _⟩ := A.own z
    exact n o
  · rcases third p h with q | q
    · exact backO p (x.own p q)
    · exact .inl q.1
  · rw [putOuts_length]
    exact r.len
  · rcases cls i t e with ⟨j, v, hs, sp, hv, hσ⟩ | ⟨e1, q⟩
    · obtain ⟨w, hw, rt⟩ := r2.slot j t sp
      rw [List.getElem?_map, hv] at hw
      cases hw
      exact ⟨v, hσ, rt⟩
    · obtain ⟨v, hσ, rt⟩ := r.slot i t e1
      exact ⟨v, hσ, RepT.ext x rt fun ow p ev => stay i t p e1 q ow (by rw [hσ, ev])⟩
  · have mixed : ∀ (j1 i2 : Nat) (t1 t2 : T), (spreadE ts.length io outs)[j1]? = some (some t1) → vs[j1]? = some (.ref p) → t1.own = true → env[i2]? = some (some t2) → (∀ j o, (j, o) ∈ io.zip outs → sl.getD j none ≠ some i2) → t2.own = true → σ[i2]? = some (some (.ref p)) → False := by
      intro j1 i2 t1 t2 a b c d q f g
      have o1 : Own (spreadE ts.length io outs) (vs.map some) p := ⟨j1, t1, a, c, by rw [List.getElem?_map, b]; rfl⟩
      rcases x.own p o1 with z | z
      · exact stay i2 t2 p d q f g z
      · obtain ⟨v, hv, rt⟩ := r.slot i2 t2 d
        rw [g] at hv; cases hv
        cases t2 with
        | d _ => cases f
        | l ds =>
          obtain ⟨p2, vs2, e3, h4, _⟩ := rt
          cases e3
          rw [z] at h4; cases h4
        | m _ => exact rt.elim
        | o _ _ => exact rt.elim
    rcases cls i t e1 with ⟨j1, v1, hs1, sp1, hv1, hσ1⟩ | ⟨f1, q1⟩
    · rw [hσ1] at s1; cases s1
      rcases cls j u e2 with ⟨j2, v2, hs2, sp2, hv2, hσ2⟩ | ⟨f2, q2⟩
      · rw [hσ2] at s2; cases s2
        have : j1 = j2 := r2.sep j1 j2 t u p sp1 sp2 o1 o2 (by rw [List.getElem?_map, hv1]; rfl) (by rw [List.getElem?_map, hv2]; rfl)
        subst this
        rw [hs1] at hs2
        cases hs2
        rfl
      · exact (mixed j1 j t u sp1 hv1 o1 f2 q2 o2 s2).elim
    · rcases cls j u e2 with ⟨j2, v2, hs2, sp2, hv2, hσ2⟩ | ⟨f2, q2⟩
      · rw [hσ2] at s2; cases s2
        exact (mixed j2 i u t sp2 hv2 o2 f1 q1 o1 s1).elim
      · exact r.sep i j t u p f1 f2 o1 o2 s1 s2
/-- .. and its result -/
theorem call_post {t : T} {v : V} (r : Rel K cs F H env σ) (A : Args env σ sl ts vs) (ok : ioOk io sl = true) (lo : outs.length = io.length) (p : Post K cs F H (ts.map some) (vs.map some) F' H' (spreadE ts.length io outs) t v) :
    Post K cs F H env σ F' H' (putOuts io outs sl env) t v := by
  obtain ⟨x, r2, third⟩ := call_state r A ok lo p.ext p.rel
  refine ⟨x, r2, p.rep, fun o q e => ?_⟩
  obtain ⟨n1, n2⟩ := p.fresh o q e
  have n3 : Own env σ q ∨ H q = none := by
    rcases n2 with z | z
    · obtain ⟨_, _, _, _, o, _⟩ := A.own z
      exact .inl o
    · exact .inr z
  refine ⟨fun z => ?_, n3⟩
  rcases third q z with z | z
  · exact n1 z
  · rcases n2 with z2 | z2
    · exact z.2 z2
    · obtain ⟨i, u, e1, ow, es⟩ := z.1
      obtain ⟨w, hw, rt⟩ := r.slot i u e1
      rw [es] at hw; cases hw
      cases u with
      | d _ => cases ow
      | l ds =>
        obtain ⟨p2, vs2, e3, h4, _⟩ := rt
        cases e3
        rw [z2] at h4; cases h4
      | m _ => exact rt.elim
      | o _ _ => exact rt.elim

/-- the arguments stand -/
inductive ArgRep (K : PySem.W.Frag) (cs : Cst) (F H : Hp) : List T → List V → Prop where
  | nil : ArgRep K cs F H [] []
  | cons {t : T} {v : V} {ts : List T} {vs : List V} : RepT K cs F H t v → ArgRep K cs F H ts vs → ArgRep K cs F H (t :: ts) (v :: vs)
theorem ArgRep.length : ∀ {ts : List T} {vs : List V}, ArgRep K cs F H ts vs → ts.length = vs.length
  | _, _, .nil => rfl
  | _, _, .cons _ r => by rw [List.length_cons, List.length_cons, r.length]
theorem ArgRep.get : ∀ {ts : List T} {vs : List V} {i : Nat} {t : T}, ArgRep K cs F H ts vs → ts[i]? = some t → ∃ v, vs[i]? = some v ∧ RepT K cs F H t v
  | _, _, 0, _, .cons h _, e => ⟨_, rfl, by cases e; exact h⟩
  | _, _, i + 1, t, .cons _ r, e => by
    obtain ⟨v, h1, h2⟩ := ArgRep.get (i := i) (t := t) r (by simpa using e)
    exact ⟨v, by simpa using h1, h2⟩
  | _, _, _, _, .nil, e => by simp at e
/-- the callee's state -/
theorem rel_args (r : Rel K cs F H env σ) (A : Args env σ sl ts vs) (ar : ArgRep K cs F H ts vs) (ok : ioOk io sl = true) : Rel K cs F H (ts.map some) (vs.map some) := by
  obtain ⟨h1, h2, h3⟩ := ioOk_of ok
  have nth : ∀ (j : Nat) (t : T), (ts.map some)[j]? = some (some t) → ts[j]? = some t := fun j t e => by
    rw [List.getElem?_map] at e
    cases q : ts[j]? with
    | none => rw [q] at e; cases e
    | some u => rw [q] at e; cases e; rfl
  have nthv : ∀ (j : Nat) (t : V), (vs.map some)[j]? = some (some t) → vs[j]? = some t := fun j t e => by
    rw [List.getElem?_map] at e
    cases q : vs[j]? with
    | none => rw [q] at e; cases e
    | some u => rw [q] at e; cases e; rfl
  refine ⟨by rw [List.length_map, List.length_map, ar.length], r.fin, fun i t e => ?_, fun i j t u p e1 e2 o1 o2 s1 s2 => ?_⟩
  · obtain ⟨v, a, b⟩ := ar.get (nth i t e)
    exact ⟨v, by rw [List.getElem?_map, a]; rfl, b⟩
  · have f1 := nth i t e1
    have f2 := nth j u e2
    have g1 := nthv i _ s1
    have g2 := nthv j _ s2
    cases q1 : sl.getD i none with
    | none => rw [A.val i t f1 q1] at o1; cases o1
    | some a =>
      cases q2 : sl.getD j none with
      | none => rw [A.val j u f2 q2] at o2; cases o2
      | some b =>
        obtain ⟨t1, v1, a1, b1, c1, d1⟩ := A.at_ i a q1
        obtain ⟨t2, v2, a2, b2, c2, d2⟩ := A.at_ j b q2
        rw [f1] at a1; cases a1
        rw [f2] at a2; cases a2
        rw [g1] at b1; cases b1
        rw [g2] at b2; cases b2
        have ab : a = b := r.sep a b t u p c1 c2 o1 o2 d1 d2
        subst ab
        obtain ⟨x, hx, ex⟩ := List.mem_iff_getElem.mp (h3 i a q1)
        obtain ⟨y, hy, ey⟩ := List.mem_iff_getElem.mp (h3 j a q2)
        have hxy : x = y := by
          refine (List.getElem_inj (h₀ := by rw [List.length_map]; exact hx) (h₁ := by rw [List.length_map]; exact hy) h2).mp ?_
          rw [List.getElem_map, List.getElem_map, ex, ey, q1, q2]
        subst hxy
        rw [← ex, ← ey]
variable {C : Cl} {W : WX}
/-- the arguments, from the left; those that are slots as they stand behind all of them -/
theorem args_run : ∀ (es : Es) {F H : Hp} {env : AM.Env} {Kk : List T → AM.Env → Prop}, Rel K cs F H env σ → Fit (evA C es env) (WxOf W K cs F H env σ) Kk →
    tOs W K cs C es σ H fun xs H2 => ∃ F2 ts env2, Ext F H (Own env σ) F2 H2 (Own env2 σ) ∧ Rel K cs F2 H2 env2 σ ∧ Args env2 σ es.slots ts xs ∧ ArgRep K cs F2 H2 ts xs ∧ Kk ts env2
  | .nil, F, H, env, Kk, r, f => ⟨F, [], env, Ext.refl _ _ _, r, ⟨rfl, rfl, fun j i e => by simp [Es.slots] at e, fun j t e => by simp at e⟩, .nil, f⟩
  | .cons e es, F, H, env, Kk, r, f => by
    unfold evA at f
    cases hs : slotOf e with
    | some i =>
      rw [hs] at f
      simp only at f
      show tO W K cs C e σ H _
      unfold tO
      rw [hs]
      split at f
      · rename_i t0 h0
        obtain ⟨v, hv, _⟩ := r.get h0
        refine ⟨v, hv, tOs.mono (args_run es r f.bind) fun xs H2 ⟨F2, ts, env2, x, r2, A, rs, k⟩ => ?_⟩
        split at k
        · rename_i t ht
          obtain ⟨w, hw, rt⟩ := r2.get ht
          rw [hv] at hw; cases hw
          refine ⟨F2, _, env2, x, r2, ⟨by rw [List.length_cons, List.length_cons, A.len], ?_, fun j i' e' => ?_, fun j u e1 e2 => ?_⟩, .cons rt rs, k⟩
          · show (slotOf e :: es.slots).length = _
            rw [List.length_cons, List.length_cons, A.len2]
          · cases j with
            | zero =>
              have : slotOf e = some i' := by simpa [Es.slots] using e'
              rw [hs] at this; cases this
              exact ⟨t, v, rfl, rfl, getD_some ht, hv⟩
            | succ j =>
              obtain ⟨t', v', a, b, c, d⟩ := A.at_ j i' (by simpa [Es.slots] using e')
              exact ⟨t', v', by simpa using a, by simpa using b, c, d⟩
          · cases j with
            | zero =>
              have : slotOf e = none := by simpa [Es.slots] using e2
              rw [hs] at this; cases this
            | succ j => exact A.val j u (by simpa using e1) (by simpa [Es.slots] using e2)
        · exact k.elim
      · exact f.elim
    | none =>
      rw [hs] at f
      simp only at f
      show tO W K cs C e σ H _
      unfold tO
      rw [hs]
      refine ⟨F, env, r, f.bind.mono (fun _ _ z => z) fun t env1 g v F1 H1 p => ?_⟩
      obtain ⟨F2, p2, s⟩ := p.kept
      refine tOs.mono (args_run es p2.rel (g.bind.mono (fun _ _ z => WxOf.move p2.ext z) fun _ _ z => z)) fun xs H2 ⟨F3, ts, env2, x, r2, A, rs, k⟩ => ?_
      refine ⟨F3, _, env2, p2.ext.trans x, r2, ⟨by rw [List.length_cons, List.length_cons, A.len], ?_, fun j i' e' => ?_, fun j u e1 e2 => ?_⟩, .cons (show RepT K cs F3 _ (.d t.snap) _ from RepD.mono x.fr p2.rep) rs, k⟩
      · show (slotOf e :: es.slots).length = _
        rw [List.length_cons, List.length_cons, A.len2]
      · cases j with
        | zero =>
          have : slotOf e = some i' := by simpa [Es.slots] using e'
          rw [hs] at this; cases this
        | succ j =>
          obtain ⟨t', v', a, b, c, d⟩ := A.at_ j i' (by simpa [Es.slots] using e')
          exact ⟨t', v', by simpa using a, by simpa using b, c, d⟩
      · cases j with
        | zero =>
          have e1 : T.d t.snap = u := by simpa using e1
          subst e1
          rfl
        | succ j => exact A.val j u (by simpa using e1) (by simpa [Es.slots] using e2)
end
end AM

set_option maxHeartbeats 4000000
/-! expressions: the machine does as the evaluator answers -/
namespace AM
open PySem PySem.Spec PyProof.Rows L2

/-! ### rules that hold whatever the rule is -/
section
variable {X : Cx}
theorem PE.imp {e : Expr} {t t' : TE} (h : PE X e t) (q : ∀ σ H Q, t' σ H Q → t σ H Q) : PE X e t' := ⟨fun pins s σ H Q I w => h.run pins s σ H Q I (q σ H Q w)⟩
theorem PT.imp {e : Expr} {t t' : TT} (h : PT X e t) (q : ∀ σ H Q, t' σ H Q → t σ H Q) : PT X e t' := ⟨fun pins s σ H Q I w => h.run pins s σ H Q I (q σ H Q w)⟩
theorem PW.imp {e : Expr} {t t' : TT} (h : PW X e t) (q : ∀ σ H Q, t' σ H Q → t σ H Q) : PW X e t' := ⟨fun wh pins s σ H Q I w => h.run wh pins s σ H Q I (q σ H Q w)⟩
def uOp (X : Cx) (f : Value → Value → Sem Value) : R2 := fun x y H Q => ∃ r : R2, OpR X f r ∧ r x y H Q
theorem uOp_ok {f : Value → Value → Sem Value} : OpR X f (uOp X f) := by
  intro pins s σ H x y v u Q I rx ry w
  obtain ⟨r, h, q⟩ := w
  exact h pins s σ H x y v u Q I rx ry q
def uUn (X : Cx) (f : Value → Sem Value) : V → Hp → VK → Prop := fun x H Q => ∃ r : V → Hp → VK → Prop, UnR X f r ∧ r x H Q
theorem uUn_ok {f : Value → Sem Value} : UnR X f (uUn X f) := by
  intro pins s σ H x v Q I rx w
  obtain ⟨r, h, q⟩ := w
  exact h pins s σ H x v Q I rx q
def uIx (X : Cx) : R2 := fun x y H Q => ∃ r : R2, IxR X r ∧ r x y H Q
theorem uIx_ok : IxR X (uIx X) := by
  intro a b pins s σ H x y v u Q I rx ry w hs
  obtain ⟨r, h, q⟩ := w
  exact h a b pins s σ H x y v u Q I rx ry q hs
def uSl (X : Cx) : V → Option Int → Option Int → Hp → VK → Prop := fun x lo hi H Q => ∃ r : V → Option Int → Option Int → Hp → VK → Prop, SlR X r ∧ r x lo hi H Q
theorem uSl_ok : SlR X (uSl X) := by
  intro pins s σ H x v vl vu lo hi sl Q I rx hs pl pu w
  obtain ⟨r, h, q⟩ := w
  exact h pins s σ H x v vl vu lo hi sl Q I rx hs pl pu q
def uCall (X : Cx) (f : Value) : List V → Hp → VK → Prop := fun xs H Q => ∃ r : List V → Hp → VK → Prop, CallR X f r ∧ r xs H Q
theorem uCall_ok {f : Value} : CallR X f (uCall X f) := by
  intro pins s σ H xs us Q I rx w
  obtain ⟨r, h, q⟩ := w
  exact h pins s σ H xs us Q I rx q
end

/-- what a maker promises: an object of the class at C -/
def spI (P : Tx) (k f : Nat) (K : PySem.W.Frag) (cs : Cst) (C : Addr) (np : Nat) : Sp := fun vs H Q E => ∃ x dx ws H1 F ts, vs = .ref x :: ws ∧ H = upd (upd H1 dx (.own x)) x (.ins C dx []) ∧ H1 x = none ∧ H1 dx = none ∧ dx ≠ x ∧ ts.length = np ∧ Rel K cs F H1 (ts.map some) (ws.map some) ∧ (∀ t ∈ ts, t.own = false) ∧
  Fit (P.call k f ts) (fun e outs => WxOf (fun cl d _ H' => E cl d H') K cs F H1 (ts.map some) (ws.map some) e (spreadE np (P.io f) outs))
    (fun t outs => KeOf K cs F H1 (ts.map some) (ws.map some) (fun v H' => v = .ref x → Q .non H') t (spreadE np (P.io f) outs))
theorem spI_len {P : Tx} {k f : Nat} {K : PySem.W.Frag} {cs : Cst} {C : Addr} {np : Nat} {vs : List V} {H : Hp} {Q : VK} {E : XK} (h : spI P k f K cs C np vs H Q E) : vs.length = np + 1 := by
  obtain ⟨x, dx, ws, H1, F, ts, rfl, _, _, _, _, e, r, _⟩ := h
  have := r.len
  rw [List.length_map, List.length_map] at this
  rw [List.length_cons]
  omega
/-- what a name that is called stands for: a def, or a class -/
def CallOk (P : Tx) (k : Nat) (cs : Cst) (X : Cx) (f : Nat) (x : Str) : Prop :=
  (∃ (a : Addr) (fd : FuncData) (ps : List Str), X.mg x = some (.ref a) ∧ PySem.W.keepIn X.K (.ref a) = true ∧ Binds X.K fd ps [] ∧
    FnOk X.prog X.w X.K X.mg X.base (L2.CX X.prog X.w) k a fd ps (spF P k f X.K cs ps.length) ∧ ∀ fn, P.fns[f]? = some fn → fn.np = ps.length) ∨
  ∃ (C fA : Addr) (fd : FuncData) (q : Str) (ps : List Str), X.mg x = some (.ref C) ∧ Mk X.K C fA ∧ Binds X.K fd (q :: ps) [] ∧ (∀ fn, P.fns[f]? = some fn → fn.obj.isSome = true ∧ fn.np = ps.length) ∧
    ∀ j, k = j + 1 → FnOk X.prog X.w X.K X.mg X.base (L2.CX X.prog X.w) j fA fd (q :: ps) (spI P k f X.K cs C ps.length)
/-- the surroundings of a body: the text's facts -/
structure Good (P : Tx) (G : Ck) (k : Nat) (cs : Cst) (W : WX) (N : List Str) (sc : Scope) (X : Cx) : Prop where
  hN : X.N = N
  hsc : X.env.scope = sc
  nd : N.Nodup
  calm : X.calm = true
  room : Room k X.A
  takes : Takes X W
  pass : PassesOwn (model X.prog X.w) X.A X.env X.xe
  fns : ∀ (f : Nat) (x : Str), x ≠ "" → G.nm[f]? = some x → CallOk P k cs X f x
  eqs : ∀ c n, (c, n) ∈ G.eqs → ∃ (C fA : Addr) (fd : FuncData) (ps : List Str), cs c = some C ∧ PySem.W.findIn X.K (.ref C) "__eq__" = some (some (.ref fA)) ∧ PySem.W.isFn X.K (.ref fA) = true ∧ Binds X.K fd ps [] ∧
    (∀ fn, P.fns[n]? = some fn → fn.np = ps.length) ∧ ∀ j, k = j + 1 → FnOk X.prog X.w X.K X.mg X.base (L2.CX X.prog X.w) j fA fd ps (spF P k n X.K cs ps.length)
  prs : ∀ c n x, (c, n, x) ∈ G.pr → ∃ (C p fA : Addr) (fd : FuncData) (ps : List Str), cs c = some C ∧ PropOf X.K C x p fA ∧ Binds X.K fd ps [] ∧
    (∀ fn, P.fns[n]? = some fn → fn.np = ps.length) ∧ ∀ j, k = j + 1 → FnOk X.prog X.w X.K X.mg X.base (L2.CX X.prog X.w) j fA fd ps (spF P k n X.K cs ps.length)
  free : ∀ x ∈ G.fr, X.mg x = none
  glob : ∀ (x : Str) (d : D), P.glob x = some d → x ∈ G.gl → ∃ (u : Value) (v : V), (X.mg x = some u ∨ (X.mg x = none ∧ bootBuiltins x = some u)) ∧ RelV v u ∧ ∀ F, RepD X.K cs F d v

section
variable {P : Tx} {G : Ck} {k : Nat} {cs : Cst} {W : WX} {N : List Str} {sc : Scope} {X : Cx}
abbrev clOf (P : Tx) (k : Nat) : Cl := ⟨P.call k, P.io, P.glob⟩

theorem nameB_of {i : Nat} {x : Str} (h : nameB N sc i x = true) : N[i]? = some x ∧ Vis sc x ∧ (x == ("__debug__" : Str)) = false ∧ (x == ("__classdict__" : Str)) = false := by
  unfold nameB at h
  simp only [Bool.and_eq_true, decide_eq_true_eq, Bool.not_eq_true'] at h
  obtain ⟨⟨⟨h1, h2⟩, h3⟩, h4⟩ := h
  refine ⟨h1, ?_, h3, h4⟩
  unfold visB at h2
  split at h2
  · rename_i e; exact .inl e
  · rename_i e; exact .inr (.inl e)
  · rename_i e; exact .inr (.inr e)
  · cases h2
theorem glB_of {x : Str} (h : glB sc x = true) : sc.names.lookup x = some .globalImplicit ∧ (x == ("__debug__" : Str)) = false ∧ x ≠ "__name__" := by
  unfold glB at h
  simp only [Bool.and_eq_true, Bool.not_eq_true'] at h
  obtain ⟨⟨h1, h2⟩, h3⟩ := h
  refine ⟨?_, h2, fun e => ?_⟩
  · split at h1
    · assumption
    · cases h1
  · subst e
    simp at h3
theorem Good.gl (g : Good P G k cs W N sc X) {x : Str} (h : sc.names.lookup x = some .globalImplicit) : Gl X x := by
  show X.env.scope.names.lookup x = _
  rw [g.hsc]
  exact h
theorem pe_name (g : Good P G k cs W N sc X) {i : Nat} {x : Str} {pos : Pos} (h : nameB N sc i x = true) : PE X (.Name x pos) (tVar i) := by
  obtain ⟨h1, h2, h3, h4⟩ := nameB_of h
  exact pe_var (by rw [g.hN]; exact h1) (by rw [g.hsc]; exact h2) h3 h4
/-- the arguments, one by one -/
inductive EsOk (X : Cx) (W : WX) (cs : Cst) (C : Cl) : Es → List Expr → Prop where
  | nil : EsOk X W cs C .nil []
  | cons {e : E} {es : Es} {x : Expr} {xs : List Expr} : PE X x (tO W X.K cs C e) → (∀ (ys : List Expr) (env : PySem.Env), starEach (x :: ys) env = (false, eval x env) :: starEach ys env) → EsOk X W cs C es xs → EsOk X W cs C (.cons e es) (x :: xs)
theorem EsOk.pa {C : Cl} : ∀ {es : Es} {xs : List Expr}, EsOk X W cs C es xs → PA X xs (tOs W X.K cs C es)
  | _, _, .nil => pa_nil
  | _, _, .cons h s r => pa_cons h r.pa (s _ _)
theorem EsOk.plain {C : Cl} {pos : Pos} : ∀ {es : Es} {xs : List Expr}, EsOk X W cs C es xs → (backTo pos (starEach xs X.env)).any (·.1) = false
  | _, _, .nil => rfl
  | _, _, .cons h s r => by
    rw [s]
    show (false || (backTo pos (starEach _ X.env)).any (·.1)) = false
    rw [r.plain]
    rfl
theorem notStar {e : E} {x : Expr} (h : chkE G N sc false e x = true) (ys : List Expr) (env : PySem.Env) : starEach (x :: ys) env = (false, eval x env) :: starEach ys env := by
  cases x <;> first | rfl | (exfalso; cases e <;> simp [chkE] at h)
theorem nomarkS {o : CmpOp} {y : Expr} (h : isSet y = false) : behindInMarks o y = false := by
  cases y <;> first | rfl | (cases h; done)

/-! ### what the constants say -/
theorem cst_pe {d : D} {c : Const} {j : Nat} {pos : Pos} {C : Cl} (h : cstB d c = true) : PE X (.Constant c j pos) (tE W X.K cs C (.cst d)) := by
  have go : ∀ (v : V), PE X (.Constant c j pos) (tC v) → (∀ F, RepD X.K cs F d v) → PE X (.Constant c j pos) (tE W X.K cs C (.cst d)) := fun v p r => PE.imp p fun σ H Q ⟨F, env, rel, f⟩ => by
    unfold evE at f
    exact f v F H (Post.stay rel (r F))
  unfold cstB at h
  split at h
  · exact go _ pe_non fun _ => .non
  · have e := beq_iff_eq.mp h
    subst e
    exact go _ pe_bl fun _ => .bl _
  · have e := beq_iff_eq.mp h
    subst e
    exact go _ pe_int fun _ => .int _
  · have e := of_decide_eq_true h
    subst e
    exact go _ pe_str fun _ => .str _
  · cases h
theorem var_pe (g : Good P G k cs W N sc X) {i : Nat} {x : Str} {pos : Pos} {C : Cl} (h : nameB N sc i x = true) : PE X (.Name x pos) (tE W X.K cs C (.var i)) := PE.imp (pe_name g h) fun σ H Q ⟨F, env, rel, f⟩ => by
  unfold evE at f
  split at f
  · rename_i d e
    obtain ⟨v, hv, r⟩ := rel.get e
    exact ⟨v, hv, f v F H (Post.stay rel r)⟩
  · exact f.elim
theorem glob_pe (g : Good P G k cs W N sc X) {x : Str} {pos : Pos} (h : glB sc x = true) (hm : x ∈ G.gl) : PE X (.Name x pos) (tE W X.K cs (clOf P k) (.glob x)) := by
  obtain ⟨h1, h2, h3⟩ := glB_of h
  cases e : P.glob x with
  | none =>
    refine PE.imp (t := fun _ _ _ => False) ⟨fun _ _ _ _ _ _ z => z.elim⟩ fun σ H Q ⟨F, env, rel, f⟩ => ?_
    unfold evE at f
    rw [show (clOf P k).glob x = none from e] at f
    exact f
  | some d =>
    obtain ⟨u, v, hu, rv, rd⟩ := g.glob x d e hm
    have p : PE X (.Name x pos) (tC v) := by
      rcases hu with hu | ⟨hu, hb⟩
      · exact pe_glob (g.gl h1) hu rv h2
      · exact pe_bltn (g.gl h1) hu hb rv h3 h2
    refine PE.imp p fun σ H Q ⟨F, env, rel, f⟩ => ?_
    unfold evE at f
    rw [show (clOf P k).glob x = some d from e] at f
    exact f v F H (Post.stay rel (rd F))
end
end AM

set_option maxHeartbeats 4000000
namespace AM
open PySem PySem.Spec PyProof.Rows L2
section
variable {P : Tx} {G : Ck} {k : Nat} {cs : Cst} {W : WX} {N : List Str} {sc : Scope} {X : Cx} {C : Cl}

theorem prim_run {p : Prim} {es : Es} {F H : Hp} {env : AM.Env} {σ : L2.St} {Q : VK} {K : PySem.W.Frag} (r : Rel K cs F H env σ) (f : Fit (evE C (.prim p es) env) (WxOf W K cs F H env σ) (KeOf K cs F H env σ Q)) :
    tOs W K cs C es σ H fun xs H2 => ∃ F2 ds env2 t, Rel K cs F2 H2 env2 σ ∧ RepVs K cs F2 H2 ds xs ∧ primF p ds = some t ∧ Gives K cs F2 H2 env2 σ t Q := by
  unfold evE at f
  refine tOs.mono (ops_run es r f.bind) fun xs H2 ⟨F2, ds, env2, x, r2, rs, q⟩ => ?_
  cases e : primF p ds with
  | none => rw [e] at q; exact q.elim
  | some t =>
    rw [e] at q
    exact ⟨F2, ds, env2, t, r2, rs, e, KeOf.move x q⟩
theorem RepVs.two' {K : PySem.W.Frag} {F H : Hp} {ds : List D} {x y : V} (r : RepVs K cs F H ds [x, y]) : ∃ d e, ds = [d, e] ∧ RepV K cs F H d x ∧ RepV K cs F H e y := by
  cases r with
  | cons h r =>
    cases r with
    | cons g r => cases r; exact ⟨_, _, rfl, h, g⟩
theorem RepVs.one' {K : PySem.W.Frag} {F H : Hp} {ds : List D} {x : V} (r : RepVs K cs F H ds [x]) : ∃ d, ds = [d] ∧ RepV K cs F H d x := by
  cases r with
  | cons h r => cases r; exact ⟨_, rfl, h⟩
theorem bin_pe (g : Good P G k cs W N sc X) {o : Operator} {es : Es} {x y : Expr} {pos : Pos} (h : EsOk X W cs C es [x, y]) : PE X (.BinOp x o y pos) (tE W X.K cs C (.prim (.bin o) es)) := by
  cases h with
  | cons ha sa h =>
    cases h with
    | cons hb sb h =>
      cases h
      refine PE.imp (pe_op (uOp_ok (X := X) (f := binaryOp o)) ha hb) fun σ H Q ⟨F, env, r, f⟩ => ?_
      refine tO.mono (prim_run r f) fun v1 H1 z => tO.mono z fun v2 H2 ⟨F2, ds, env2, t, r2, rs, e, q⟩ => ?_
      obtain ⟨d, e', rfl, r1, r3⟩ := rs.two'
      exact bin_ok e r2 r1 r3 q
theorem neg_pe (g : Good P G k cs W N sc X) {es : Es} {x : Expr} {pos : Pos} (h : EsOk X W cs C es [x]) : PE X (.UnaryOp .USub x pos) (tE W X.K cs C (.prim .neg es)) := by
  cases h with
  | cons ha sa h =>
    cases h
    refine PE.imp (pe_un (uUn_ok (X := X) (f := unaryOp .USub)) ha) fun σ H Q ⟨F, env, r, f⟩ => ?_
    refine tO.mono (prim_run r f) fun v1 H1 ⟨F2, ds, env2, t, r2, rs, e, q⟩ => ?_
    obtain ⟨d, rfl, r1⟩ := rs.one'
    cases d with
    | int i => cases e; exact un_ok r2 r1 q
    | _ => cases e
theorem cmp_pe (g : Good P G k cs W N sc X) {o : CmpOp} {es : Es} {x y : Expr} {pos : Pos} (hs : isSet y = false) (h : EsOk X W cs C es [x, y]) : PE X (.Compare x [o] [y] pos) (tE W X.K cs C (.prim (.cmp o) es)) := by
  cases h with
  | cons ha sa h =>
    cases h with
    | cons hb sb h =>
      cases h
      refine PE.imp (pe_cmpR (uOp_ok (X := X) (f := compareOp o)) ha hb (nomarkS hs)) fun σ H Q ⟨F, env, r, f⟩ => ?_
      refine tO.mono (prim_run r f) fun v1 H1 z => tO.mono z fun v2 H2 ⟨F2, ds, env2, t, r2, rs, e, q⟩ => ?_
      obtain ⟨d, e', rfl, r1, r3⟩ := rs.two'
      obtain ⟨b, hb, e⟩ := Option.map_eq_some_iff.mp e
      subst e
      exact cmp_ok g.room hb r2 r1 r3 (q.stay r2 (.bl b))
theorem cmp_pt (g : Good P G k cs W N sc X) {o : CmpOp} {es : Es} {x y : Expr} {pos : Pos} (hs : isSet y = false) (h : EsOk X W cs C es [x, y]) : PT X (.Compare x [o] [y] pos) (tT W X.K cs C (.prim (.cmp o) es)) := by
  cases h with
  | cons ha sa h =>
    cases h with
    | cons hb sb h =>
      cases h
      refine PT.imp (pt_cmpR (uOp_ok (X := X) (f := compareOp o)) ha hb (nomarkS hs)) fun σ H Q ⟨F, env, r, f⟩ => ?_
      have f' : Fit (evE C (.prim (.cmp o) _) env) (WxOf W X.K cs F H env σ) (KeOf X.K cs F H env σ fun v H' => ∃ b, v = .bl b ∧ Q b H') := f.bind.mono (fun _ _ z => z) fun t env' z v F' H' p => by
        cases t with
        | d d =>
          cases d with
          | bl b =>
            cases (show RepD X.K cs F' (.bl b) v from p.rep)
            exact ⟨b, rfl, z F' H' p.ext p.rel⟩
          | _ => exact z.elim
        | _ => exact z.elim
      refine tO.mono (prim_run r f') fun v1 H1 z => tO.mono z fun v2 H2 ⟨F2, ds, env2, t, r2, rs, e, q⟩ => ?_
      obtain ⟨d, e', rfl, r1, r3⟩ := rs.two'
      obtain ⟨b, hb, e⟩ := Option.map_eq_some_iff.mp e
      subst e
      exact cmp_ok g.room hb r2 r1 r3 (q.stay r2 (.bl b))
theorem ix_pe (g : Good P G k cs W N sc X) {es : Es} {x y : Expr} {pos : Pos} (hs : isSlice y = false) (h : EsOk X W cs C es [x, y]) : PE X (.Subscript x y pos) (tE W X.K cs C (.prim .ix es)) := by
  cases h with
  | cons ha sa h =>
    cases h with
    | cons hb sb h =>
      cases h
      have pl : PlainIx y := fun o i => by cases y <;> first | rfl | (cases hs; done)
      refine PE.imp (pe_ix (uIx_ok (X := X)) ha hb pl) fun σ H Q ⟨F, env, r, f⟩ => ?_
      refine tO.mono (prim_run r f) fun v1 H1 z => tO.mono z fun v2 H2 ⟨F2, ds, env2, t, r2, rs, e, q⟩ => ?_
      obtain ⟨d, e', rfl, r1, r3⟩ := rs.two'
      obtain ⟨b, hb, e⟩ := Option.map_eq_some_iff.mp e
      subst e
      exact ix_ok hb r2 r1 r3 q
theorem RepVs.all {K : PySem.W.Frag} {F H : Hp} : ∀ {ds : List D} {xs : List V}, RepVs K cs F H ds xs → ds.length = xs.length
  | _, _, .nil => rfl
  | _, _, .cons _ r => by rw [List.length_cons, List.length_cons, r.all]
/-- every operand kept: nothing among them is only looked at -/
theorem ops_kept {K : PySem.W.Frag} : ∀ (es : Es) {F H : Hp} {env : AM.Env} {σ : L2.St} {Kk : List D → AM.Env → Prop}, es.slots.all Option.isNone = true → Rel K cs F H env σ → Fit (evEs C es env) (WxOf W K cs F H env σ) Kk →
    tOs W K cs C es σ H fun xs H2 => ∃ F2 ds env2, Ext F H (Own env σ) F2 H2 (Own env2 σ) ∧ Rel K cs F2 H2 env2 σ ∧ RepDs K cs F2 ds xs ∧ Kk ds env2
  | .nil, F, H, env, σ, Kk, _, r, f => ⟨F, [], env, Ext.refl _ _ _, r, .nil, f⟩
  | .cons e es, F, H, env, σ, Kk, hn, r, f => by
    unfold evEs at f
    have hn : (slotOf e).isNone = true ∧ es.slots.all Option.isNone = true := by
      have := hn
      rw [Es.slots, List.all_cons, Bool.and_eq_true] at this
      exact this
    have hs : slotOf e = none := by
      cases q : slotOf e with
      | none => rfl
      | some i => rw [q] at hn; cases hn.1
    rw [hs] at f
    simp only at f
    show tO W K cs C e σ H _
    unfold tO
    rw [hs]
    refine ⟨F, env, r, f.bind.mono (fun _ _ z => z) fun t env1 g v F1 H1 p => ?_⟩
    obtain ⟨F2, p2, s⟩ := p.kept
    refine tOs.mono (ops_kept es hn.2 p2.rel (g.bind.mono (fun _ _ z => WxOf.move p2.ext z) fun _ _ z => z)) fun xs H2 ⟨F3, ds, env2, x, r2, rs, k⟩ => ?_
    exact ⟨F3, _, env2, p2.ext.trans x, r2, .cons (RepD.mono x.fr p2.rep) rs, k⟩
theorem tup_pe {es : Es} {xs : List Expr} {j : Nat} {pos : Pos} (hn : es.slots.all Option.isNone = true) (h : EsOk X W cs C es xs) : PE X (.Tuple xs j pos) (tE W X.K cs C (.prim .tup es)) := by
  refine PE.imp (pe_tup h.pa) fun σ H Q ⟨F, env, r, f⟩ => ?_
  unfold evE at f
  refine tOs.mono (ops_kept es hn r f.bind) fun vs H2 ⟨F2, ds, env2, x, r2, rs, q⟩ => ?_
  have e : primF .tup ds = if ds.length ≤ sizeLine then some (.d (.tup ds)) else none := rfl
  rw [e] at q
  by_cases hz : ds.length ≤ sizeLine
  · rw [if_pos hz] at q
    exact ⟨by rw [← rs.length]; exact hz, Gives.tup r2 (KeOf.move x q) rs⟩
  · rw [if_neg hz] at q
    exact q.elim
theorem lst_pe {es : Es} {xs : List Expr} {pos : Pos} (hn : es.slots.all Option.isNone = true) (h : EsOk X W cs C es xs) : PE X (.List xs pos) (tE W X.K cs C (.prim .lst es)) := by
  refine PE.imp (pe_lst h.pa) fun σ H Q ⟨F, env, r, f⟩ => ?_
  unfold evE at f
  refine tOs.mono (ops_kept es hn r f.bind) fun vs H2 ⟨F2, ds, env2, x, r2, rs, q⟩ => ?_
  have e : primF .lst ds = if ds.length ≤ sizeLine then some (.l ds) else none := rfl
  rw [e] at q
  by_cases hz : ds.length ≤ sizeLine
  · rw [if_pos hz] at q
    exact ⟨by rw [← rs.length]; exact hz, Gives.lst r2 (KeOf.move x q) rs⟩
  · rw [if_neg hz] at q
    exact q.elim
theorem dic_pe {pos : Pos} : PE X (.Dict [] [] pos) (tE W X.K cs C (.prim .dic .nil)) := by
  refine PE.imp pe_dnewK fun σ H Q ⟨F, env, r, f⟩ => ?_
  unfold evE evEs at f
  intro p hp
  exact f (.ref p) _ _ (Post.newK r hp (.dic0 upd_same))
theorem bi_pe (g : Good P G k cs W N sc X) {n : Bi} {es : Es} {x : Str} {a : Expr} {as : List Expr} {p pos : Pos} (hx : x = Str.ofString n.name) (hg : glB sc x = true) (hf : x ∈ G.fr) (h : EsOk X W cs C es (a :: as)) :
    PE X (.Call (.Name x p) (a :: as) [] pos) (tE W X.K cs C (.prim (.bi n) es)) := by
  obtain ⟨h1, h2, h3⟩ := glB_of hg
  have main : PE X (.Call (.Name x p) (a :: as) [] pos) (tCB (uCall X n.val) (tOs W X.K cs C es)) := by
    have hm := g.free x hf
    have he : starEach (a :: as) X.env = (false, eval a X.env) :: starEach as X.env := by cases h with | cons _ s _ => exact s _ _
    have hp : (backTo pos (starEach as X.env)).any (·.1) = false := by cases h with | cons _ _ r => exact r.plain
    subst hx
    cases n <;> first
      | exact pe_callB (uCall_ok (X := X)) (g.gl h1) hm (by decide +kernel) h.pa h3 h2 he hp
      | exact pe_callTy (uCall_ok (X := X)) (g.gl h1) hm (by decide +kernel) h.pa h3 h2 he hp
  refine PE.imp main fun σ H Q ⟨F, env, r, f⟩ => ?_
  refine tOs.mono (prim_run r f) fun vs H2 ⟨F2, ds, env2, t, r2, rs, e, q⟩ => ?_
  exact bi_ok g.calm e r2 rs q
end
end AM

set_option maxHeartbeats 4000000
namespace AM
open PySem PySem.Spec PyProof.Rows L2
section
variable {P : Tx} {G : Ck} {k : Nat} {cs : Cst} {W : WX} {N : List Str} {sc : Scope} {X : Cx} {C : Cl}

/-- a step of a reading: behind an expression -/
theorem step {α : Type} {K : PySem.W.Frag} {c : E} {F H : Hp} {env : AM.Env} {σ : L2.St} {g : T → AM.Env → R α} {Kk : α → AM.Env → Prop} {Q : VK} (r : Rel K cs F H env σ) (f : Fit ((evE C c env).bind g) (WxOf W K cs F H env σ) Kk)
    (h : ∀ t env' v F' H', Post K cs F H env σ F' H' env' t v → Fit (g t env') (WxOf W K cs F' H' env' σ) Kk → Q v H') : tE W K cs C c σ H Q :=
  ⟨F, env, r, f.bind.mono (fun _ _ z => z) fun t env' z v F' H' p => h t env' v F' H' p (z.mono (fun _ _ q => WxOf.move p.ext q) fun _ _ q => q)⟩
/-- .. behind a bool -/
theorem stepB {α : Type} {K : PySem.W.Frag} {c : E} {F H : Hp} {env : AM.Env} {σ : L2.St} {g : Bool → AM.Env → R α} {Kk : α → AM.Env → Prop} {Q : VK} (r : Rel K cs F H env σ) (f : Fit (((evE C c env).bl).bind g) (WxOf W K cs F H env σ) Kk)
    (h : ∀ b env' F' H', Ext F H (Own env σ) F' H' (Own env' σ) → Rel K cs F' H' env' σ → Fit (g b env') (WxOf W K cs F' H' env' σ) Kk → Q (.bl b) H') : tE W K cs C c σ H Q := by
  refine ⟨F, env, r, f.bind.bind.mono (fun _ _ z => z) fun t env' z v F' H' p => ?_⟩
  cases t with
  | d d =>
    cases d with
    | bl b =>
      cases (show RepD K cs F' (.bl b) v from p.rep)
      exact h b env' F' H' p.ext p.rel (Fit.mono z (fun _ _ q => WxOf.move p.ext q) fun _ _ q => q)
    | _ => exact z.elim
  | _ => exact z.elim
/-- .. behind a test -/
theorem stepT {α : Type} {K : PySem.W.Frag} {c : E} {F H : Hp} {env : AM.Env} {σ : L2.St} {g : Bool → AM.Env → R α} {Kk : α → AM.Env → Prop} {Q : Bool → Hp → Prop} (r : Rel K cs F H env σ) (f : Fit (((evE C c env).bl).bind g) (WxOf W K cs F H env σ) Kk)
    (h : ∀ b env' F' H', Ext F H (Own env σ) F' H' (Own env' σ) → Rel K cs F' H' env' σ → Fit (g b env') (WxOf W K cs F' H' env' σ) Kk → Q b H') : tT W K cs C c σ H Q :=
  ⟨F, env, r, f.bind.mono (fun _ _ z => z) fun b env' z F' H' x r' => h b env' F' H' x r' (z.mono (fun _ _ q => WxOf.move x q) fun _ _ q => q)⟩
/-- an expression whose answer is a bool, as a test -/
theorem test_of {c : E} {e : Expr} (h : PE X e (tE W X.K cs C c)) (hp : plainT e = true) : PT X e (tT W X.K cs C c) := by
  refine PT.imp (pt_val h fun whole => ?_) fun σ H Q ⟨F, env, r, f⟩ => ?_
  · cases e <;> first | rfl | (cases hp; done) | (rename_i o _ _; cases o <;> first | rfl | (cases hp; done))
  · refine ⟨F, env, r, f.bind.mono (fun _ _ z => z) fun t env' z v F' H' p => ?_⟩
    cases t with
    | d d =>
      cases d with
      | bl b =>
        cases (show RepD X.K cs F' (.bl b) v from p.rep)
        exact ⟨b, rfl, z F' H' p.ext p.rel⟩
      | _ => exact z.elim
    | _ => exact z.elim
theorem and_pe {a b : E} {x y : Expr} {r : List Expr} {pos : Pos} (ha : PE X x (tE W X.K cs C a)) (hb : PE X (.BoolOp .And (y :: r) pos) (tE W X.K cs C b)) : PE X (.BoolOp .And (x :: y :: r) pos) (tE W X.K cs C (.and a b)) := by
  refine PE.imp (pe_and ha hb) fun σ H Q ⟨F, env, rel, f⟩ => ?_
  unfold evE at f
  refine stepB rel f fun c env' F' H' x r' z => ⟨c, rfl, ?_⟩
  cases c with
  | true => exact ⟨F', env', r', z.mono (fun _ _ q => q) fun _ _ q => KeOf.move x q⟩
  | false => exact z _ F' H' ⟨x, r', .bl false, fun z => by cases z⟩
theorem or_pe {a b : E} {x y : Expr} {r : List Expr} {pos : Pos} (ha : PE X x (tE W X.K cs C a)) (hb : PE X (.BoolOp .Or (y :: r) pos) (tE W X.K cs C b)) : PE X (.BoolOp .Or (x :: y :: r) pos) (tE W X.K cs C (.or a b)) := by
  refine PE.imp (pe_or ha hb) fun σ H Q ⟨F, env, rel, f⟩ => ?_
  unfold evE at f
  refine stepB rel f fun c env' F' H' x r' z => ⟨c, rfl, ?_⟩
  cases c with
  | false => exact ⟨F', env', r', z.mono (fun _ _ q => q) fun _ _ q => KeOf.move x q⟩
  | true => exact z _ F' H' ⟨x, r', .bl true, fun z => by cases z⟩
theorem one_pe {a : E} {x : Expr} {o : BoolOp} {pos : Pos} (ha : PE X x (tE W X.K cs C a)) : PE X (.BoolOp o [x] pos) (tE W X.K cs C (.one a)) := by
  refine PE.imp (pe_one ha) fun σ H Q ⟨F, env, rel, f⟩ => ?_
  unfold evE at f
  exact ⟨F, env, rel, f⟩
theorem not_pe {a : E} {x : Expr} {pos : Pos} (ha : PE X x (tE W X.K cs C a)) : PE X (.UnaryOp .Not x pos) (tE W X.K cs C (.not a)) := by
  refine PE.imp (pe_not ha) fun σ H Q ⟨F, env, rel, f⟩ => ?_
  unfold evE at f
  refine stepB rel f fun c env' F' H' x r' z => ⟨c, rfl, ?_⟩
  exact z _ F' H' ⟨x, r', .bl _, fun z => by cases z⟩
theorem ife_pe {c a b : E} {c' a' b' : Expr} {pos : Pos} (hc : PT X c' (tT W X.K cs C c)) (ha : PE X a' (tE W X.K cs C a)) (hb : PE X b' (tE W X.K cs C b)) : PE X (.IfExp c' a' b' pos) (tE W X.K cs C (.ife c a b)) := by
  refine PE.imp (pe_ifExp hc ha hb) fun σ H Q ⟨F, env, rel, f⟩ => ?_
  unfold evE at f
  refine stepT rel f fun k env' F' H' x r' z => ?_
  cases k with
  | true => exact iteT ⟨F', env', r', z.mono (fun _ _ q => q) fun _ _ q => KeOf.move x q⟩
  | false => exact iteF ⟨F', env', r', z.mono (fun _ _ q => q) fun _ _ q => KeOf.move x q⟩
theorem Fit.unbind {α β : Type} {r : R α} {f : α → AM.Env → R β} {Wx : AM.X → AM.Env → Prop} {Kk : β → AM.Env → Prop} (h : Fit r Wx fun a env => Fit (f a env) Wx Kk) : Fit (r.bind f) Wx Kk := by
  cases r <;> exact h
def blF (t : T) (env : AM.Env) : R Bool := match t with
  | .d (.bl b) => .ok b env
  | _ => .no
theorem reBl {K : PySem.W.Frag} {F H F1 H1 : Hp} {env env1 : AM.Env} {σ : L2.St} {r : R T} {Q : Bool → Hp → Prop} (x : Ext F H (Own env σ) F1 H1 (Own env1 σ))
    (z : Fit r (WxOf W K cs F1 H1 env1 σ) fun t env2 => Fit (blF t env2) (WxOf W K cs F H env σ) (KbOf K cs F H env σ Q)) : Fit r.bl (WxOf W K cs F1 H1 env1 σ) (KbOf K cs F1 H1 env1 σ Q) :=
  Fit.unbind (z.mono (fun _ _ q => q) fun t env2 q => Fit.mono q (fun _ _ q => WxOf.move x q) fun _ _ q => KbOf.move x q)
/-- tests by tests -/
theorem and_pw {a b : E} {x y : Expr} {r : List Expr} {pos : Pos} (ha : PT X x (tT W X.K cs C a)) (hb : PW X (.BoolOp .And (y :: r) pos) (tT W X.K cs C b)) : PW X (.BoolOp .And (x :: y :: r) pos) (tT W X.K cs C (.and a b)) := by
  refine PW.imp (pw_and ha hb) fun σ H Q ⟨F, env, rel, f⟩ => ?_
  unfold evE at f
  refine stepT rel f.bind fun c env' F' H' x r' z => ?_
  cases c with
  | true => exact iteT ⟨F', env', r', reBl x z⟩
  | false => exact iteF (z F' H' x r')
theorem or_pw {a b : E} {x y : Expr} {r : List Expr} {pos : Pos} (ha : PT X x (tT W X.K cs C a)) (hb : PW X (.BoolOp .Or (y :: r) pos) (tT W X.K cs C b)) : PW X (.BoolOp .Or (x :: y :: r) pos) (tT W X.K cs C (.or a b)) := by
  refine PW.imp (pw_or ha hb) fun σ H Q ⟨F, env, rel, f⟩ => ?_
  unfold evE at f
  refine stepT rel f.bind fun c env' F' H' x r' z => ?_
  cases c with
  | false => exact iteF ⟨F', env', r', reBl x z⟩
  | true => exact iteT (z F' H' x r')
theorem one_pw {a : E} {x : Expr} {o : BoolOp} {pos : Pos} (ha : PT X x (tT W X.K cs C a)) : PW X (.BoolOp o [x] pos) (tT W X.K cs C (.one a)) := by
  have go : PW X (.BoolOp o [x] pos) (tT W X.K cs C a) := by
    cases o with
    | And => exact pw_and1 ha
    | Or => exact pw_or1 ha
  refine PW.imp go fun σ H Q ⟨F, env, rel, f⟩ => ?_
  unfold evE at f
  exact ⟨F, env, rel, f⟩
theorem not_pt {a : E} {x : Expr} {pos : Pos} (ha : PT X x (tT W X.K cs C a)) : PT X (.UnaryOp .Not x pos) (tT W X.K cs C (.not a)) := by
  refine PT.imp (pt_not ha) fun σ H Q ⟨F, env, rel, f⟩ => ?_
  unfold evE at f
  refine stepT rel f.bind fun c env' F' H' x r' z => ?_
  exact z F' H' x r'
/-- whatever is true of itself -/
theorem tru_pt (g : Good P G k cs W N sc X) {a : E} {x : Expr} (ha : PE X x (tO W X.K cs C a)) (hp : plainT x = true) : PT X x (tT W X.K cs C (.tru a)) := by
  refine PT.imp (pt_truth ha fun whole => ?_) fun σ H Q ⟨F, env, rel, f⟩ => ?_
  · cases x <;> first | rfl | (cases hp; done) | (rename_i o _ _; cases o <;> first | rfl | (cases hp; done))
  · unfold evE at f
    have f1 := f.bind.bind
    have fin : ∀ {d : D} {v : V} {F' H' : Hp} {env' : AM.Env}, Ext F H (Own env σ) F' H' (Own env' σ) → Rel X.K cs F' H' env' σ → RepV X.K cs F' H' d v →
        Fit (match truF d with | some b => R.ok (T.d (.bl b)) env' | none => R.no) (WxOf W X.K cs F H env σ) (fun t env2 => Fit (blF t env2) (WxOf W X.K cs F H env σ) (KbOf X.K cs F H env σ Q)) → ∃ k, TruV X.K v H' k ∧ Q k H' := by
      intro d v F' H' env' x r' rv q
      cases e : truF d with
      | none => rw [e] at q; exact q.elim
      | some b =>
        rw [e] at q
        have q : Q b H' := q F' H' x r'
        refine ⟨b, ?_, q⟩
        unfold truF at e
        split at e
        · cases e; cases rv.bl; exact rfl
        · cases e; cases rv.int; exact rfl
        · cases e; cases rv.non; exact rfl
        · cases e
          obtain ⟨p, vs, rfl, h1, r1⟩ := rv.sql r'.fin
          refine .inl ⟨vs, h1, ?_⟩
          cases r1 <;> rfl
        · cases e
          obtain ⟨p, vs, rfl, h1, r1⟩ := rv.sqt r'.fin
          refine .inr (.inl ⟨vs, h1, ?_⟩)
          cases r1 <;> rfl
        · cases e
    unfold opd at f1
    show tO W X.K cs C a σ H _
    unfold tO
    cases hs : slotOf a with
    | some i =>
      rw [hs] at f1
      simp only at f1
      split at f1
      · rename_i t ht
        obtain ⟨v, hv, rt⟩ := rel.get ht
        exact ⟨v, hv, fin (Ext.refl _ _ _) rel rt.snap f1⟩
      · exact f1.elim
    | none =>
      rw [hs] at f1
      simp only at f1
      refine ⟨F, env, rel, f1.bind.mono (fun _ _ z => z) fun t env1 q v F1 H1 p => ?_⟩
      obtain ⟨F2, p2, s⟩ := p.kept
      exact fin p2.ext p2.rel (.fz p2.rep) q
theorem sl_pe (g : Good P G k cs W N sc X) {x : E} {lo hi : Oe} {a b : Option Expr} {e : Expr} {pos p2 : Pos} (he : PE X e (tO W X.K cs C x))
    (hl : (lo = .no ∧ a = none) ∨ ∃ c y, lo = .yes c ∧ a = some y ∧ PE X y (tE W X.K cs C c)) (hh : (hi = .no ∧ b = none) ∨ ∃ c y, hi = .yes c ∧ b = some y ∧ PE X y (tE W X.K cs C c)) :
    PE X (.Subscript e (.Slice a b none p2) pos) (tE W X.K cs C (.sl x lo hi)) := by
  -- a part
  have part : ∀ (o : Oe) (y : Option Expr), ((o = .no ∧ y = none) ∨ ∃ c z, o = .yes c ∧ y = some z ∧ PE X z (tE W X.K cs C c)) → ∃ t, PO X y t ∧
      ∀ {α : Type} {F H : Hp} {env : AM.Env} {σ : L2.St} {g : Option Int → AM.Env → R α} {Kk : α → AM.Env → Prop} {Q : Option Int → Hp → Prop}, Rel X.K cs F H env σ → Fit ((evP C o env).bind g) (WxOf W X.K cs F H env σ) Kk →
        (∀ i env' F' H', Ext F H (Own env σ) F' H' (Own env' σ) → Rel X.K cs F' H' env' σ → Fit (g i env') (WxOf W X.K cs F' H' env' σ) Kk → Q i H') → t σ H Q := by
    rintro o y (⟨rfl, rfl⟩ | ⟨c, z, rfl, rfl, hz⟩)
    · refine ⟨_, po_none, fun {α F H env σ g Kk Q} r f h => ?_⟩
      unfold evP at f
      exact h none env F H (Ext.refl _ _ _) r f
    · refine ⟨_, po_some hz, fun {α F H env σ g Kk Q} r f h => ?_⟩
      unfold evP at f
      refine ⟨F, env, r, f.bind.bind.mono (fun _ _ z => z) fun t env' q v F' H' p => ?_⟩
      cases t with
      | d d =>
        cases d with
        | int i =>
          cases (show RepD X.K cs F' (.int i) v from p.rep)
          exact ⟨i, rfl, h (some i) env' F' H' p.ext p.rel (Fit.mono q (fun _ _ q => WxOf.move p.ext q) fun _ _ q => q)⟩
        | _ => exact q.elim
      | _ => exact q.elim
  obtain ⟨tl, pl, kl⟩ := part lo a hl
  obtain ⟨th, ph, kh⟩ := part hi b hh
  refine PE.imp (pe_slice (uSl_ok (X := X)) he pl ph) fun σ H Q ⟨F, env, r, f⟩ => ?_
  unfold evE at f
  show tO W X.K cs C x σ H _
  unfold tO
  have fin : ∀ {d : D} {v : V} {l h : Option Int} {F1 H1 F2 H2 : Hp} {env2 : AM.Env}, Rel X.K cs F2 H2 env2 σ → RepV X.K cs F2 H2 d v → Ext F H (Own env σ) F2 H2 (Own env2 σ) →
      Fit (slR d l h env2) (WxOf W X.K cs F2 H2 env2 σ) (KeOf X.K cs F H env σ Q) → uSl X v l h H2 Q := by
    intro d v l h F1 H1 F2 H2 env2 r2 rv x q
    unfold slR at q
    cases e : slF d l h with
    | none => rw [e] at q; exact q.elim
    | some t =>
      rw [e] at q
      exact sl_ok e r2 rv (KeOf.move x q)
  cases hs : slotOf x with
  | some i =>
    rw [hs] at f
    simp only at f
    split at f
    · rename_i t0 h0
      obtain ⟨v, hv, _⟩ := r.get h0
      refine ⟨v, hv, kl r f fun l env1 F1 H1 x1 r1 f1 => kh r1 f1 fun h env2 F2 H2 x2 r2 f2 => ?_⟩
      split at f2
      · rename_i t ht
        obtain ⟨w, hw, rt⟩ := r2.get ht
        rw [hv] at hw; cases hw
        exact fin (F1 := F1) (H1 := H1) r2 rt.snap (x1.trans x2) f2
      · exact f2.elim
    · exact f.elim
  | none =>
    rw [hs] at f
    simp only at f
    refine ⟨F, env, r, f.bind.mono (fun _ _ z => z) fun t env0 q v F0 H0 p => ?_⟩
    obtain ⟨F9, p9, s9⟩ := p.kept
    refine kl p9.rel (Fit.mono q (fun _ _ q => WxOf.move p9.ext q) fun _ _ q => q) fun l env1 F1 H1 x1 r1 f1 => kh r1 f1 fun h env2 F2 H2 x2 r2 f2 => ?_
    exact fin (F1 := F1) (H1 := H1) r2 (.fz (RepD.mono (x1.trans x2).fr p9.rep)) (p9.ext.trans (x1.trans x2)) f2
theorem lastMarks2 {o1 o2 : CmpOp} {b c : Expr} (h1 : isSet b = false) (h2 : isSet c = false) : lastMarks [o1, o2] [b, c] = false := by
  show behindInMarks o2 c = false
  exact nomarkS h2
/-- a op b op c -/
theorem chain_run (g : Good P G k cs W N sc X) {o1 o2 : CmpOp} {a b c : E} {F H : Hp} {env : AM.Env} {σ : L2.St} {Q : VK} (r : Rel X.K cs F H env σ) (f : Fit (evE C (.chain o1 o2 a b c) env) (WxOf W X.K cs F H env σ) (KeOf X.K cs F H env σ Q)) :
    tChain (uOp X (compareOp o1)) (uOp X (compareOp o2)) (tE W X.K cs C a) (tE W X.K cs C b) (tE W X.K cs C c) σ H Q := by
  unfold evE at f
  refine ⟨F, env, r, f.bind.mono (fun _ _ z => z) fun t1 env1 q1 v1 F1 H1 p1 => ?_⟩
  obtain ⟨F1', p1', s1⟩ := p1.kept
  have q1 := Fit.mono q1 (fun _ _ q => WxOf.move p1'.ext q) fun _ _ q => q
  refine ⟨F1', env1, p1'.rel, q1.bind.mono (fun _ _ z => z) fun t2 env2 q2 v2 F2 H2 p2 => ?_⟩
  obtain ⟨F2', p2', s2⟩ := p2.kept
  have q2 := Fit.mono q2 (fun _ _ q => WxOf.move p2'.ext q) fun _ _ q => q
  have rv1 : RepV X.K cs F2' H2 t1.snap v1 := .fz (RepD.mono p2'.ext.fr p1'.rep)
  have rv2 : RepV X.K cs F2' H2 t2.snap v2 := .fz p2'.rep
  cases e : cmpF o1 t1.snap t2.snap with
  | none => rw [e] at q2; exact q2.elim
  | some k =>
    rw [e] at q2
    refine cmp_ok (o := o1) g.room e p2'.rel rv1 rv2 ⟨k, rfl, ?_⟩
    cases k with
    | false => exact iteF (q2 _ F2' H2 ⟨p1'.ext.trans p2'.ext, p2'.rel, .bl false, fun z => by cases z⟩)
    | true =>
      refine iteT ⟨F2', env2, p2'.rel, Fit.mono q2.bind (fun _ _ z => z) fun t3 env3 q3 v3 F3 H3 p3 => ?_⟩
      obtain ⟨F3', p3', s3⟩ := p3.kept
      cases e3 : cmpF o2 t2.snap t3.snap with
      | none => rw [e3] at q3; exact q3.elim
      | some k3 =>
        rw [e3] at q3
        exact cmp_ok (o := o2) g.room e3 p3'.rel (.fz (RepD.mono p3'.ext.fr p2'.rep)) (.fz p3'.rep) (q3 _ F3' H3 ⟨(p1'.ext.trans p2'.ext).trans p3'.ext, p3'.rel, .bl k3, fun z => by cases z⟩)
theorem chain_pe (g : Good P G k cs W N sc X) {o1 o2 : CmpOp} {a b c : E} {a' b' c' : Expr} {pos : Pos} (h1 : isSet b' = false) (h2 : isSet c' = false) (ha : PE X a' (tE W X.K cs C a)) (hb : PE X b' (tE W X.K cs C b)) (hc : PE X c' (tE W X.K cs C c)) :
    PE X (.Compare a' [o1, o2] [b', c'] pos) (tE W X.K cs C (.chain o1 o2 a b c)) :=
  PE.imp (pe_chain (uOp_ok (X := X) (f := compareOp o1)) (uOp_ok (X := X) (f := compareOp o2)) ha hb hc (lastMarks2 h1 h2)) fun _ _ _ ⟨_, _, r, f⟩ => chain_run g r f
theorem chain_pt (g : Good P G k cs W N sc X) {o1 o2 : CmpOp} {a b c : E} {a' b' c' : Expr} {pos : Pos} (h1 : isSet b' = false) (h2 : isSet c' = false) (ha : PE X a' (tE W X.K cs C a)) (hb : PE X b' (tE W X.K cs C b)) (hc : PE X c' (tE W X.K cs C c)) :
    PT X (.Compare a' [o1, o2] [b', c'] pos) (tT W X.K cs C (.chain o1 o2 a b c)) := by
  refine PT.imp (pt_chain (uOp_ok (X := X) (f := compareOp o1)) (uOp_ok (X := X) (f := compareOp o2)) ha hb hc (lastMarks2 h1 h2)) fun σ H Q ⟨F, env, r, f⟩ => ?_
  refine chain_run g r (Q := fun x H' => ∃ k, x = .bl k ∧ Q k H') (f.bind.mono (fun _ _ z => z) fun t env' z v F' H' p => ?_)
  cases t with
  | d d =>
    cases d with
    | bl b =>
      cases (show RepD X.K cs F' (.bl b) v from p.rep)
      exact ⟨b, rfl, z F' H' p.ext p.rel⟩
    | _ => exact z.elim
  | _ => exact z.elim
end
end AM

set_option maxHeartbeats 4000000
namespace AM
open PySem PySem.Spec PyProof.Rows L2
section
variable {P : Tx} {G : Ck} {k : Nat} {cs : Cst} {W : WX} {N : List Str} {sc : Scope} {X : Cx}

/-! ### calls -/
theorem outsOf_length (io : List Nat) (env : AM.Env) : (outsOf io env).length = io.length := by simp [outsOf]
theorem runF_ok {C : Cl} {isa : Nat → Nat → Bool} {fn : Fn} {ts : List T} {t : T} {outs : AM.Env} (h : runF C isa fn ts = .ok t outs) : ts.length = fn.np ∧ outs.length = fn.io.length := by
  unfold runF at h
  split at h
  · rename_i c
    refine ⟨c.1, ?_⟩
    split at h
    · cases h; exact outsOf_length _ _
    · cases h; exact outsOf_length _ _
    · cases h
    · cases h
  · cases h
theorem runF_ex {C : Cl} {isa : Nat → Nat → Bool} {fn : Fn} {ts : List T} {t : AM.X} {outs : AM.Env} (h : runF C isa fn ts = .ex t outs) : ts.length = fn.np ∧ outs.length = fn.io.length := by
  unfold runF at h
  split at h
  · rename_i c
    refine ⟨c.1, ?_⟩
    split at h
    · cases h
    · cases h
    · cases h; exact outsOf_length _ _
    · cases h
  · cases h
theorem runO_ok {C : Cl} {isa : Nat → Nat → Bool} {fn : Fn} {c : Nat} {fl : List (Str × E)} {ts : List T} {t : T} {outs : AM.Env} (h : runO C isa fn c fl ts = .ok t outs) : ts.length = fn.np ∧ outs.length = fn.io.length ∧ fn.io = [] := by
  unfold runO at h
  split at h
  · rename_i c
    refine ⟨c.1, ?_, c.2⟩
    rw [c.2]
    split at h
    · cases h; rfl
    · cases h
    · cases h
  · cases h
theorem runO_ex {C : Cl} {isa : Nat → Nat → Bool} {fn : Fn} {c : Nat} {fl : List (Str × E)} {ts : List T} {t : AM.X} {outs : AM.Env} (h : runO C isa fn c fl ts = .ex t outs) : ts.length = fn.np ∧ outs.length = fn.io.length ∧ fn.io = [] := by
  unfold runO at h
  split at h
  · rename_i c
    refine ⟨c.1, ?_, c.2⟩
    rw [c.2]
    split at h
    · cases h
    · cases h; rfl
    · cases h
  · cases h
theorem call_ok {f : Nat} {ts : List T} {t : T} {outs : AM.Env} (h : P.call k f ts = .ok t outs) : ∃ fn, P.fns[f]? = some fn ∧ ts.length = fn.np ∧ outs.length = (P.io f).length ∧ (fn.obj.isSome = true → fn.io = []) := by
  cases k with
  | zero => cases h
  | succ k =>
    rw [Tx.call_succ] at h
    split at h
    · rename_i fn e
      refine ⟨fn, e, ?_⟩
      unfold Tx.io
      rw [e]
      split at h
      · rename_i eo
        have hh : ∃ C isa, runF C isa fn ts = .ok t outs := by
          split at h
          · exact ⟨_, _, h⟩
          · unfold Tx.lowR at h
            split at h
            · cases h
            · exact ⟨_, _, h⟩
        obtain ⟨_, _, h⟩ := hh
        obtain ⟨a, b⟩ := runF_ok h
        exact ⟨a, b, fun z => by rw [eo] at z; cases z⟩
      · unfold Tx.make at h
        split at h
        · cases h
        · obtain ⟨a, b, c⟩ := runO_ok h
          exact ⟨a, b, fun _ => c⟩
    · cases h
theorem call_ex {f : Nat} {ts : List T} {t : AM.X} {outs : AM.Env} (h : P.call k f ts = .ex t outs) : ∃ fn, P.fns[f]? = some fn ∧ ts.length = fn.np ∧ outs.length = (P.io f).length ∧ (fn.obj.isSome = true → fn.io = []) := by
  cases k with
  | zero => cases h
  | succ k =>
    rw [Tx.call_succ] at h
    split at h
    · rename_i fn e
      refine ⟨fn, e, ?_⟩
      unfold Tx.io
      rw [e]
      split at h
      · rename_i eo
        have hh : ∃ C isa, runF C isa fn ts = .ex t outs := by
          split at h
          · exact ⟨_, _, h⟩
          · unfold Tx.lowR at h
            split at h
            · cases h
            · exact ⟨_, _, h⟩
        obtain ⟨_, _, h⟩ := hh
        obtain ⟨a, b⟩ := runF_ex h
        exact ⟨a, b, fun z => by rw [eo] at z; cases z⟩
      · unfold Tx.make at h
        split at h
        · cases h
        · obtain ⟨a, b, c⟩ := runO_ex h
          exact ⟨a, b, fun _ => c⟩
    · cases h
/-! ### a class called -/
def tMakeS (C : Addr) (sp : Sp) (E : L2.St → XK) (t : TA) : TE := fun σ H Q => t σ H fun vs H1 => ∀ x dx, H1 x = none → H1 dx = none → dx ≠ x → sp (.ref x :: vs) (upd (upd H1 dx (.own x)) x (.ins C dx [])) (fun v H2 => v = .non ∧ Q (.ref x) H2) (E σ)
section
variable {CX : CXT} {C fA : Addr} {fd : FuncData} {ps : List Str} {sp : Sp} {j : Nat}
theorem run_makeS {E : XK} {pins : List (Addr × Obj)} {σ : L2.St} {H : Hp} {s : Shared} {Q : VK} {us : List Value} {vs : List V} (M : Mk X.K C fA) (F : FnOk X.prog X.w X.K X.mg X.base CX j fA fd ps sp) (hr : Room (j + 1) X.A) (hb : Binds X.K fd ps [])
    (hx : PassesAt CX X σ E) (I : Inv X pins σ H s) (r : Vals vs us)
    (h : ∀ x dx, H x = none → H dx = none → dx ≠ x → sp (.ref x :: vs) (upd (upd H dx (.own x)) x (.ins C dx [])) (fun v H2 => v = .non ∧ Q (.ref x) H2) E) :
    wpAny (model X.prog X.w) X.A (call (.ref C) us) (EP X pins σ Q) X.xe s := by
  have made := Inv.made (C := C) I
  have asked := h (s.heap.objs.size + 1) s.heap.objs.size (I.hok.fresh (Nat.le_add_right _ 1)) (I.hok.fresh .refl) (show s.heap.objs.size ≠ s.heap.objs.size + 1 by omega)
  have args : Vals (.ref (s.heap.objs.size + 1) :: vs) (.ref (s.heap.objs.size + 1) :: us) := .cons rfl r
  have cnt : (Value.ref (s.heap.objs.size + 1) :: us).length = ps.length := args.length.symm.trans (F.len _ _ _ _ asked)
  have bound := hb _ (.ref (s.heap.objs.size + 1) :: us) made.kIn (by simpa using cnt)
  rw [List.append_nil] at bound
  have body := F.run _ X.stack _ _ ⟨.ref (s.heap.objs.size + 1) :: us, []⟩ _ _ _ E (hr.make C us []) (made.env0.make C us []) bound args asked
  refine wpAny_call (make_map (f := fA) I.kIn M.makes M.init (beq_iff_eq.mp M.fn) (codeAny_mono body ?_))
  rintro (x | (_ | _ | _ | u)) s' post
  · exact hx pins _ _ x s' made post
  · exact post.elim
  · exact post.elim
  · exact post.elim
  · obtain ⟨v, H', I3, rv, rfl, q3⟩ := made.after post
    exact ⟨rv, .ref (s.heap.objs.size + 1), H', I3, rfl, q3⟩
theorem pe_makeS {E : L2.St → XK} {x : Str} {p pos : Pos} {e : Expr} {es : List Expr} {t : TA} (M : Mk X.K C fA) (F : FnOk X.prog X.w X.K X.mg X.base CX j fA fd ps sp) (hr : Room (j + 1) X.A) (hg : Gl X x) (hm : X.mg x = some (.ref C)) (hb : Binds X.K fd ps []) (hx : ∀ σ, PassesAt CX X σ (E σ))
    (ha : PA X (e :: es) t) (hdb : (x == ("__debug__" : Str)) = false) (he : starEach (e :: es) X.env = (false, eval e X.env) :: starEach es X.env) (hpl : (backTo pos (starEach es X.env)).any (·.1) = false) :
    PE X (.Call (.Name x p) (e :: es) [] pos) (tMakeS C sp E t) := by
  constructor
  intro pins s σ H Q inv ask
  refine wpAny_Call_Name_kw (ld_glob inv hg hm (PySem.W.callWith_K (h₀ := X.base) inv.ok.mod.kin M.kp (thn (ha.run pos pins s σ H _ inv ask) fun us s' got => ?_) he hpl) hdb)
  obtain ⟨vs, H', inv', vals, ask'⟩ := got
  exact ⟨inv'.kIn, run_makeS M F hr hb (hx σ) inv' vals ask'⟩
theorem pe_dead {x : Str} {p pos : Pos} {e : Expr} {es : List Expr} {t : TA} (M : Mk X.K C fA) (hg : Gl X x) (hm : X.mg x = some (.ref C))
    (ha : PA X (e :: es) t) (hdb : (x == ("__debug__" : Str)) = false) (he : starEach (e :: es) X.env = (false, eval e X.env) :: starEach es X.env) (hpl : (backTo pos (starEach es X.env)).any (·.1) = false) :
    PE X (.Call (.Name x p) (e :: es) [] pos) (fun σ H _ => t σ H fun _ _ => False) := by
  constructor
  intro pins s σ H Q inv ask
  refine wpAny_Call_Name_kw (ld_glob inv hg hm (PySem.W.callWith_K (h₀ := X.base) inv.ok.mod.kin M.kp (thn (ha.run pos pins s σ H _ inv ask) fun us s' got => ?_) he hpl) hdb)
  obtain ⟨_, _, _, _, z⟩ := got
  exact z.elim
theorem pe_makeS0 {E : L2.St → XK} {x : Str} {p pos : Pos} (M : Mk X.K C fA) (F : FnOk X.prog X.w X.K X.mg X.base CX j fA fd ps sp) (hr : Room (j + 1) X.A) (hg : Gl X x) (hm : X.mg x = some (.ref C)) (hb : Binds X.K fd ps []) (hx : ∀ σ, PassesAt CX X σ (E σ))
    (hdb : (x == ("__debug__" : Str)) = false) : PE X (.Call (.Name x p) [] [] pos) (tMakeS C sp E tNil) := by
  constructor
  intro pins s σ H Q inv ask
  exact wpAny_Call_Name_kw (ld_glob inv hg hm (PySem.W.callWith_K0 inv.kIn M.kp (run_makeS (us := []) M F hr hb (hx σ) inv .nil ask)) hdb)
end
theorem pe_callSD0 {CX : CXT} {f : Addr} {fd : FuncData} {ps : List Str} {sp : Sp} {E : L2.St → XK} {x : Str} {p pos : Pos} (F : FnOk X.prog X.w X.K X.mg X.base CX k f fd ps sp) (hr : Room k X.A) (hg : Gl X x) (hm : X.mg x = some (.ref f))
    (hk : PySem.W.keepIn X.K (.ref f) = true) (hb : Binds X.K fd ps []) (hx : ∀ σ, PassesAt CX X σ (E σ)) (hdb : (x == ("__debug__" : Str)) = false) :
    PE X (.Call (.Name x p) [] [] pos) (tCallSD sp [] E tNil) := by
  constructor
  intro pins s σ H Q inv ask
  exact wpAny_Call_Name_kw (ld_glob inv hg hm (PySem.W.callWith_K0 inv.kIn hk (run_fnSD (us := []) F hr hb .nil (hx σ) inv .nil ask)) hdb)
/-- no answer -/
theorem no_pe0 {X : Cx} {e : Expr} {t : TE} (h : ∀ σ H Q, ¬ t σ H Q) : PE X e t := ⟨fun _ _ _ _ _ _ z => (h _ _ _ z).elim⟩
theorem mk_pe (g : Good P G k cs W N sc X) {f : Nat} {es : Es} {x q0 : Str} {as : List Expr} {p pos : Pos} {C fA : Addr} {fd : FuncData} {ps : List Str} (hgl : glB sc x = true) (h : EsOk X W cs (clOf P k) es as) (hm : X.mg x = some (.ref C)) (M : Mk X.K C fA)
    (hb : Binds X.K fd (q0 :: ps) []) (hnp : ∀ fn, P.fns[f]? = some fn → fn.obj.isSome = true ∧ fn.np = ps.length) (hF : ∀ j, k = j + 1 → FnOk X.prog X.w X.K X.mg X.base (L2.CX X.prog X.w) j fA fd (q0 :: ps) (spI P k f X.K cs C ps.length)) :
    PE X (.Call (.Name x p) as [] pos) (tE W X.K cs (clOf P k) (.call f es)) := by
  obtain ⟨h1, h2, h3⟩ := glB_of hgl
  cases k with
  | zero =>
    cases h with
    | nil =>
      refine no_pe0 fun σ H Q ⟨F, env, rel, f⟩ => ?_
      unfold evE evA at f
      unfold R.bind at f
      simp only at f
      unfold callK at f
      split at f
      · exact f
      · exact f
    | cons ha s r =>
      refine PE.imp (pe_dead M (g.gl h1) hm (EsOk.cons ha s r).pa h2 (s _ _) r.plain) fun σ H Q ⟨F, env, rel, f⟩ => ?_
      unfold evE at f
      refine tOs.mono (args_run _ rel f.bind) fun xs H2 ⟨F2, ts, env2, x, r2, A, ar, q⟩ => ?_
      unfold callK at q
      split at q
      · exact q
      · exact q
  | succ j =>
  have main : PE X (.Call (.Name x p) as [] pos) (tMakeS C (spI P (j + 1) f X.K cs C ps.length) (WE W) (tOs W X.K cs (clOf P (j + 1)) es)) := by
    cases h with
    | nil => exact pe_makeS0 M (hF j rfl) g.room (g.gl h1) hm hb (fun σ => passAt g.takes σ) h2
    | cons ha s r => exact pe_makeS M (hF j rfl) g.room (g.gl h1) hm hb (fun σ => passAt g.takes σ) (EsOk.cons ha s r).pa h2 (s _ _) r.plain
  refine PE.imp main fun σ H Q ⟨F, env, rel, fe⟩ => ?_
  unfold evE at fe
  refine tOs.mono (args_run es rel fe.bind) fun xs H2 ⟨F2, ts, env2, x2, r2, A, ar, q⟩ => ?_
  intro y dx hy hdx hne
  unfold callK at q
  split at q
  · exact q.elim
  · rename_i ok
    have ok : ioOk (P.io _) es.slots = true := ok
    have rc := rel_args r2 A ar ok
    have key : ∀ fn, P.fns[f]? = some fn → ts.length = fn.np → (fn.obj.isSome = true → fn.io = []) → ts.length = ps.length ∧ (∀ t ∈ ts, t.own = false) := fun fn hfn l1 l3 => by
      obtain ⟨o1, o2⟩ := hnp fn hfn
      refine ⟨l1.trans o2, fun t ht => ?_⟩
      obtain ⟨n, hn⟩ := List.getElem?_of_mem ht
      refine A.val n t hn ?_
      have io : P.io f = [] := by unfold Tx.io; rw [hfn]; exact l3 o1
      cases e : es.slots.getD n none with
      | none => rfl
      | some i =>
        obtain ⟨_, _, z⟩ := ioOk_of ok
        have := z n i e
        rw [io] at this
        cases this
    split at q
    · rename_i t outs e
      have e : P.call (j + 1) _ ts = .ok t outs := e
      obtain ⟨fn, hfn, l1, l2, l3⟩ := call_ok e
      obtain ⟨k1, k2⟩ := key fn hfn l1 l3
      refine ⟨y, dx, xs, H2, F2, ts, rfl, rfl, hy, hdx, hne, k1, rc, k2, ?_⟩
      rw [e]
      intro v F' H' post hv
      subst hv
      rw [← k1] at post
      exact ⟨rfl, (KeOf.move x2 q) _ F' H' (call_post r2 A ok l2 post)⟩
    · rename_i t outs e
      have e : P.call (j + 1) _ ts = .ex t outs := e
      obtain ⟨fn, hfn, l1, l2, l3⟩ := call_ex e
      obtain ⟨k1, k2⟩ := key fn hfn l1 l3
      refine ⟨y, dx, xs, H2, F2, ts, rfl, rfl, hy, hdx, hne, k1, rc, k2, ?_⟩
      rw [e]
      intro cl d F' H' xx rr rx
      rw [← k1] at xx rr
      obtain ⟨y1, y2, _⟩ := call_state r2 A ok l2 xx rr
      exact (WxOf.move x2 q) cl d F' H' y1 y2 rx
    · exact q.elim
theorem call_pe (g : Good P G k cs W N sc X) {f : Nat} {es : Es} {x : Str} {as : List Expr} {p pos : Pos} (hxe : x ≠ "") (hf : G.nm[f]? = some x) (hgl : glB sc x = true) (h : EsOk X W cs (clOf P k) es as) :
    PE X (.Call (.Name x p) as [] pos) (tE W X.K cs (clOf P k) (.call f es)) := by
  obtain ⟨h1, h2, h3⟩ := glB_of hgl
  rcases g.fns f x hxe hf with ⟨a, fd, ps, hm, hk, hb, hF, hnp⟩ | ⟨C, fA, fd, q0, ps, hm, M, hb, hnp, hF⟩
  case inr => exact mk_pe g hgl h hm M hb hnp hF
  have main : PE X (.Call (.Name x p) as [] pos) (tCallSD (spF P k f X.K cs ps.length) [] (WE W) (tOs W X.K cs (clOf P k) es)) := by
    cases h with
    | nil => exact pe_callSD0 hF g.room (g.gl h1) hm hk hb (fun σ => passAt g.takes σ) h2
    | cons ha s r => exact pe_callSD hF g.room (g.gl h1) hm hk hb .nil (fun σ => passAt g.takes σ) (EsOk.cons ha s r).pa h2 (s _ _) r.plain
  refine PE.imp main fun σ H Q ⟨F, env, rel, f⟩ => ?_
  unfold evE at f
  refine tOs.mono (args_run es rel f.bind) fun xs H2 ⟨F2, ts, env2, x, r2, A, ar, q⟩ => ?_
  rw [List.append_nil]
  unfold callK at q
  split at q
  · exact q.elim
  · rename_i ok
    have ok : ioOk (P.io _) es.slots = true := ok
    have rc := rel_args r2 A ar ok
    split at q
    · rename_i t outs e
      have e : P.call k _ ts = .ok t outs := e
      obtain ⟨fn, hfn, l1, l2, _⟩ := call_ok e
      have np := hnp fn hfn
      refine ⟨F2, ts, l1.trans np, rc, ?_⟩
      rw [e]
      intro v F' H' post
      rw [← np, ← l1] at post
      exact (KeOf.move x q) v F' H' (call_post r2 A ok l2 post)
    · rename_i t outs e
      have e : P.call k _ ts = .ex t outs := e
      obtain ⟨fn, hfn, l1, l2, _⟩ := call_ex e
      have np := hnp fn hfn
      refine ⟨F2, ts, l1.trans np, rc, ?_⟩
      rw [e]
      intro cl d F' H' xx rr rx
      rw [← np, ← l1] at xx rr
      obtain ⟨y1, y2, _⟩ := call_state r2 A ok l2 xx rr
      exact (WxOf.move x q) cl d F' H' y1 y2 rx
    · exact q.elim

/-! ### a slot's own container is changed -/
theorem Rel.put {K : PySem.W.Frag} {F H : Hp} {env : AM.Env} {σ : L2.St} {i : Nat} {p : Addr} {ds ds' : List D} {vs vs' : List V} (r : Rel K cs F H env σ) (he : env.getD i none = some (.l ds)) (hs : σ[i]? = some (some (.ref p))) (hH : H p = some (.lst vs))
    (h : RepDs K cs F ds' vs') : Rel K cs F (upd H p (.lst vs')) (env.set i (some (.l ds'))) σ ∧ Ext F H (Own env σ) F (upd H p (.lst vs')) (Own (env.set i (some (.l ds'))) σ) ∧ F p = none ∧ Own env σ p := by
  have he' := getD_some he
  have own : Own env σ p := ⟨i, .l ds, he', rfl, hs⟩
  have hi : i < env.length := (List.getElem?_eq_some_iff.mp he').1
  obtain ⟨v, hv, q⟩ := r.slot i _ he'
  obtain ⟨p', vs0, e, h0, fp, r0⟩ := q
  rw [hs] at hv; cases hv
  cases e
  have np : ∀ q, F q ≠ none → q ≠ p := fun q h z => h (by rw [z]; exact fp)
  have other : ∀ (j : Nat) (t : T), j ≠ i → env[j]? = some (some t) → ∀ v, σ[j]? = some (some v) → RepT K cs F H t v → RepT K cs F (upd H p (.lst vs')) t v := by
    intro j t hj e v hv rt
    cases t with
    | d d => exact rt
    | l es =>
      obtain ⟨q, ws, e2, g1, g2, g3⟩ := rt
      have qp : q ≠ p := fun z => by
        subst z
        subst e2
        exact hj (r.sep j i _ _ q e he' rfl rfl hv hs)
      exact ⟨q, ws, e2, by rw [upd_ne qp]; exact g1, g2, g3⟩
    | m _ => exact rt.elim
    | o _ _ => exact rt.elim
  refine ⟨⟨by rw [List.length_set]; exact r.len, ⟨fun q u hq => ?_, fun q xs hq => ?_⟩, fun j t e => ?_, fun a b t u q e1 e2 o1 o2 s1 s2 => ?_⟩, ⟨Sub.refl _, fun q o e n => ?_, fun q a b => absurd b a, fun q hq => ?_⟩, fp, own⟩
  · have qp : q ≠ p := np q (by rcases hq with z | ⟨o, z⟩ <;> (rw [z]; intro y; cases y))
    have := r.fin.1 q u hq
    unfold Rd at this ⊢
    rw [upd_ne qp]
    exact this
  · have qp : q ≠ p := np q (by rw [hq]; intro y; cases y)
    rw [upd_ne qp]
    exact r.fin.2 q xs hq
  · by_cases hj : j = i
    · subst hj
      rw [List.getElem?_set_self hi] at e
      cases e
      exact ⟨_, hs, p, vs', rfl, upd_same, fp, h⟩
    · rw [List.getElem?_set_ne (Ne.symm hj)] at e
      obtain ⟨v, hv, rt⟩ := r.slot j t e
      exact ⟨v, hv, other j t hj e v hv rt⟩
  · have fix : ∀ (a : Nat) (t : T), (env.set i (some (.l ds')))[a]? = some (some t) → t.own = true → ∃ t', env[a]? = some (some t') ∧ t'.own = true := fun a t e o => by
      by_cases ha : a = i
      · subst ha; exact ⟨_, he', rfl⟩
      · rw [List.getElem?_set_ne (Ne.symm ha)] at e; exact ⟨t, e, o⟩
    obtain ⟨t', f1, g1⟩ := fix a t e1 o1
    obtain ⟨u', f2, g2⟩ := fix b u e2 o2
    exact r.sep a b t' u' q f1 f2 g1 g2 s1 s2
  · have qp : q ≠ p := fun z => n (by rw [z]; exact own)
    rw [upd_ne qp]
    exact e
  · obtain ⟨j, t, e, o, s⟩ := hq
    left
    by_cases hj : j = i
    · subst hj
      exact ⟨j, _, he', rfl, s⟩
    · rw [List.getElem?_set_ne (Ne.symm hj)] at e
      exact ⟨j, t, e, o, s⟩
theorem ixN_lt {n : Nat} {i : Int} {j : Nat} (h : ixN n i = some j) : j < n := (ixN_seq h).2.1
theorem pop_run {K : PySem.W.Frag} {F H F0 H0 : Hp} {env env0 : AM.Env} {σ : L2.St} {i : Nat} {ds : List D} {xs : List V} {Q : VK} (v : V) (hs : σ[i]? = some (some v)) (x0 : Ext F0 H0 (Own env0 σ) F H (Own env σ)) (r : Rel K cs F H env σ) (rs : RepVs K cs F H ds xs)
    (f : Fit (popR i ds env) (WxOf W K cs F0 H0 env0 σ) (KeOf K cs F0 H0 env0 σ Q)) : rPop v xs H Q ∨ rPopAt v xs H Q := by
  unfold popR at f
  split at f
  · rename_i ys e0
    cases rs
    obtain ⟨v', hs', p, vs, rfl, hH, hF, rd⟩ := r.get e0
    rw [hs] at hs'; cases hs'
    split at f
    · rename_i y hy
      obtain ⟨w, hw, rw'⟩ := rd.get hy
      obtain ⟨r2, x2, _, _⟩ := r.put e0 hs hH rd.dropLast
      exact .inl ⟨p, vs, w, rfl, rfl, hH, by rw [← rd.length]; exact hw, (KeOf.move x0 f) w F _ ⟨x2, r2, rw', fun z => by cases z⟩⟩
    · exact f.elim
  · rename_i ys k e0
    cases rs with
    | cons h0 rs =>
      cases rs
      cases h0.int
      obtain ⟨v', hs', p, vs, rfl, hH, hF, rd⟩ := r.get e0
      rw [hs] at hs'; cases hs'
      split at f
      · rename_i hk
        split at f
        · rename_i j hj
          split at f
          · rename_i y hy
            obtain ⟨w, hw, rw'⟩ := rd.get hy
            obtain ⟨r2, x2, _, _⟩ := r.put e0 hs hH (rd.eraseIdx j)
            rw [rd.length] at hj
            exact .inr ⟨p, vs, _, j, w, rfl, rfl, hH, hk.1, hk.2, (ixN_seq hj).1, hw, (KeOf.move x0 f) w F _ ⟨x2, r2, rw', fun z => by cases z⟩⟩
          · exact f.elim
        · exact f.elim
      · exact f.elim
  · exact f.elim
theorem pop_pe (g : Good P G k cs W N sc X) {C : Cl} {i : Nat} {es : Es} {x : Str} {as : List Expr} {p apos pos : Pos} (hn : nameB N sc i x = true) (h : EsOk X W cs C es as) (hl : (apos.endLine == pos.line) = true) (hz : as.length ≤ 1) :
    PE X (.Call (.Attribute (.Name x p) (Str.ofString "pop") apos) as [] pos) (tE W X.K cs C (.pop i es)) := by
  have hv := pe_name (pos := p) g hn
  have hm : MtR X "list.pop" (fun x xs H Q => rPop x xs H Q ∨ rPopAt x xs H Q) := MtR.or (show MtR X "list.pop" rPop from mt_pop) (show MtR X "list.pop" rPopAt from mt_popAt)
  cases h with
  | nil =>
    refine PE.imp (pe_bm0 PySem.F.plainAttrs_list PySem.F.slot_list_pop PySem.F.type_list_pop hm hv rfl hl) fun σ H Q ⟨F, env, r, f⟩ => ?_
    unfold evE at f
    split at f
    · rename_i xs e0
      obtain ⟨v, hs, p, vs, rfl, hH, hF, rd⟩ := r.get e0
      unfold evEs at f
      rw [R.bind_ok] at f
      exact ⟨_, hs, .inl ⟨rfl, _, .inl (.inl hH)⟩, pop_run _ hs (Ext.refl _ _ _) r .nil f⟩
    · exact f.elim
  | @cons e es' a as' ha s rr =>
    cases as' with
    | nil =>
      have hall := EsOk.pa (EsOk.cons ha s rr)
      refine PE.imp (pe_bm PySem.F.plainAttrs_list PySem.F.slot_list_pop PySem.F.type_list_pop hm hv hall rfl (by rw [s]; rfl) hl (s _ _) rfl) fun σ H Q ⟨F, env, r, f⟩ => ?_
      unfold evE at f
      split at f
      · rename_i xs e0
        obtain ⟨v, hs, p, vs, rfl, hH, hF, rd⟩ := r.get e0
        refine ⟨_, hs, .inl ⟨rfl, _, .inl (.inl hH)⟩, tOs.mono (ops_run _ r f.bind) fun ws H2 ⟨F2, ds, env2, x2, r2, rs, q⟩ => ?_⟩
        exact pop_run _ hs x2 r2 rs q
      · exact f.elim
    | cons b bs => simp at hz
end
end AM

set_option maxHeartbeats 4000000
/-! what is walked: iterators, targets -/
namespace AM
open PySem PySem.Spec PyProof.Rows L2
section
variable {P : Tx} {G : Ck} {k : Nat} {cs : Cst} {W : WX} {N : List Str} {sc : Scope} {X : Cx} {C : Cl}

/-! ### targets -/
mutual
def gPt (K : PySem.W.Frag) : Pt → TG
  | .name i => gName i
  | .tup ps => gTup K ps.len (gPts K ps)
def gPts (K : PySem.W.Frag) : Pts → TGs
  | .nil => gNil
  | .cons p ps => gCons (gPt K p) (gPts K ps)
def Pts.len : Pts → Nat
  | .nil => 0
  | .cons _ ps => ps.len + 1
end
theorem locB_of {x : Str} (h : locB sc x = true) : Loc sc x := by
  unfold locB at h
  split at h
  · rename_i e; exact .inl e
  · rename_i e; exact .inr e
  · cases h
theorem asgEach {N : List Str} {sc : Scope} : ∀ {ps : Pts} {es : List Expr} (env : PySem.Env), chkPts N sc ps es = true → (assignEach es env).length = ps.len ∧ (assignEach es env).findIdx? (·.1) = none
  | .nil, [], env, _ => ⟨rfl, rfl⟩
  | .nil, _ :: _, _, h => by simp [chkPts] at h
  | .cons _ _, [], _, h => by simp [chkPts] at h
  | .cons p ps, e :: es, env, h => by
    unfold chkPts at h
    rw [Bool.and_eq_true] at h
    obtain ⟨a, b⟩ := asgEach env h.2
    have st : assignEach (e :: es) env = (false, assign e env) :: assignEach es env := by
      cases e <;> first | rfl | (exfalso; cases p <;> simp [chkPt] at h)
    rw [st]
    refine ⟨by rw [List.length_cons, a]; rfl, ?_⟩
    rw [List.findIdx?_cons, b]
    rfl
mutual
theorem pt_pg (hN : X.N = N) (nd : N.Nodup) (hc : X.calm = true) (hf : ∀ x, locB sc x = true → Loc X.env.scope x ∧ (X.fn x = true ∨ X.env.scope.names.lookup x = some .local)) : ∀ (p : Pt) (e : Expr), chkPt N sc p e = true → PG X e (gPt X.K p)
  | .name i, e, h => by
    cases e <;> first | (simp [chkPt] at h; done) | skip
    rename_i x pos
    unfold chkPt at h
    rw [Bool.and_eq_true] at h
    obtain ⟨hx, hf'⟩ := hf x h.2
    simp only [gPt]
    exact pg_name (by rw [hN]; exact nd) (by rw [hN]; exact of_decide_eq_true h.1) hx hf'
  | .tup ps, e, h => by
    cases e <;> first | (simp [chkPt] at h; done) | skip
    rename_i es j pos
    unfold chkPt at h
    obtain ⟨a, b⟩ := asgEach X.env h
    simp only [gPt]
    exact pg_tup hc (pts_pg hN nd hc hf ps es h) a b
theorem pts_pg (hN : X.N = N) (nd : N.Nodup) (hc : X.calm = true) (hf : ∀ x, locB sc x = true → Loc X.env.scope x ∧ (X.fn x = true ∨ X.env.scope.names.lookup x = some .local)) : ∀ (p : Pts) (es : List Expr), chkPts N sc p es = true → PGs X es (gPts X.K p)
  | .nil, [], h => by simp only [gPts]; exact pgs_nil
  | .nil, _ :: _, h => by simp [chkPts] at h
  | .cons _ _, [], h => by simp [chkPts] at h
  | .cons p ps, e :: es, h => by
    have h0 := h
    unfold chkPts at h
    rw [Bool.and_eq_true] at h
    simp only [gPts]
    refine pgs_cons (pt_pg hN nd hc hf p e h.1) (pts_pg hN nd hc hf ps es h.2) ?_
    cases e <;> first | rfl | (exfalso; cases p <;> simp [chkPt] at h)
end
/-- a slot is stored anew with a value that stays -/
theorem Rel.setD {K : PySem.W.Frag} {F H : Hp} {env : AM.Env} {σ : L2.St} {i : Nat} {d : D} {v : V} (r : Rel K cs F H env σ) (hi : i < env.length) (h : RepD K cs F d v) :
    Rel K cs F H (env.set i (some (.d d))) (σ.set i (some v)) ∧ ∀ p, Own (env.set i (some (.d d))) (σ.set i (some v)) p → Own env σ p := by
  have hiσ : i < σ.length := by rw [← r.len]; exact hi
  have back : ∀ (j : Nat) (t : T), (env.set i (some (.d d)))[j]? = some (some t) → t.own = true → j ≠ i ∧ env[j]? = some (some t) := fun j t e o => by
    by_cases hj : j = i
    · subst hj
      rw [List.getElem?_set_self hi] at e
      cases e; cases o
    · rw [List.getElem?_set_ne (Ne.symm hj)] at e
      exact ⟨hj, e⟩
  refine ⟨⟨by rw [List.length_set, List.length_set]; exact r.len, r.fin, fun j t e => ?_, fun a b t u p e1 e2 o1 o2 s1 s2 => ?_⟩, fun p hp => ?_⟩
  · by_cases hj : j = i
    · subst hj
      rw [List.getElem?_set_self hi] at e
      cases e
      exact ⟨v, List.getElem?_set_self hiσ, h⟩
    · rw [List.getElem?_set_ne (Ne.symm hj)] at e ⊢
      exact r.slot j t e
  · obtain ⟨n1, f1⟩ := back a t e1 o1
    obtain ⟨n2, f2⟩ := back b u e2 o2
    rw [List.getElem?_set_ne (Ne.symm n1)] at s1
    rw [List.getElem?_set_ne (Ne.symm n2)] at s2
    exact r.sep a b t u p f1 f2 o1 o2 s1 s2
  · obtain ⟨j, t, e, o, s⟩ := hp
    obtain ⟨n1, f1⟩ := back j t e o
    rw [List.getElem?_set_ne (Ne.symm n1)] at s
    exact ⟨j, t, f1, o, s⟩
mutual
theorem bind_run {K : PySem.W.Frag} {F H : Hp} : ∀ (p : Pt) {d : D} {v : V} {env env' : AM.Env} {σ : L2.St} {Q : L2.St → Hp → Prop}, bindPt p d env = some env' → Rel K cs F H env σ → RepD K cs F d v →
    (∀ σ', Rel K cs F H env' σ' → (∀ q, Own env' σ' q → Own env σ q) → (∀ j, j ∉ p.slots → σ'[j]? = σ[j]?) → σ'.length = σ.length → Q σ' H) → gPt K p v σ H Q
  | .name i, d, v, env, env', σ, Q, e, r, h, q => by
    unfold bindPt at e
    split at e
    · rename_i hi
      cases e
      obtain ⟨r2, o⟩ := r.setD hi h
      simp only [gPt]
      exact q _ r2 o (fun j hj => List.getElem?_set_ne (fun z => hj (by simp [Pt.slots, z]))) (by simp)
    · cases e
  | .tup ps, d, v, env, env', σ, Q, e, r, h, q => by
    cases h with
    | tup ha hd =>
      simp only [bindPt] at e
      simp only [gPt]
      refine ⟨_, _, rfl, r.fin.sqt ha, ?_, binds_run ps e r hd fun σ' r' o s l => q σ' r' o (fun j hj => s j (by simpa [Pt.slots] using hj)) l⟩
      rw [← hd.length]
      exact bindPts_len ps e
    | _ => simp [bindPt] at e
theorem binds_run {K : PySem.W.Frag} {F H : Hp} : ∀ (p : Pts) {d : List D} {v : List V} {env env' : AM.Env} {σ : L2.St} {Q : L2.St → Hp → Prop}, bindPts p d env = some env' → Rel K cs F H env σ → RepDs K cs F d v →
    (∀ σ', Rel K cs F H env' σ' → (∀ q, Own env' σ' q → Own env σ q) → (∀ j, j ∉ p.slots → σ'[j]? = σ[j]?) → σ'.length = σ.length → Q σ' H) → gPts K p v σ H Q
  | .nil, d, v, env, env', σ, Q, e, r, h, q => by
    cases h with
    | nil =>
      simp only [bindPts, Option.some.injEq] at e
      subst e
      simp only [gPts]
      exact ⟨rfl, q σ r (fun _ z => z) (fun _ _ => rfl) rfl⟩
    | cons _ _ => simp [bindPts] at e
  | .cons p ps, d, v, env, env', σ, Q, e, r, h, q => by
    cases h with
    | nil => simp [bindPts] at e
    | cons h1 h2 =>
      simp only [bindPts] at e
      simp only [gPts]
      split at e
      · rename_i env1 e1
        refine ⟨_, _, rfl, bind_run p e1 r h1 fun σ1 r1 o1 s1 l1 => binds_run ps e r1 h2 fun σ2 r2 o2 s2 l2 => q σ2 r2 (fun q z => o1 q (o2 q z)) (fun j hj => ?_) (l2.trans l1)⟩
        rw [Pts.slots, List.mem_append, not_or] at hj
        exact (s2 j hj.2).trans (s1 j hj.1)
      · cases e
theorem bindPts_len : ∀ (p : Pts) {d : List D} {env env' : AM.Env}, bindPts p d env = some env' → d.length = p.len
  | .nil, [], _, _, _ => rfl
  | .nil, _ :: _, _, _, e => by simp [bindPts] at e
  | .cons _ _, [], _, _, e => by simp [bindPts] at e
  | .cons p ps, d :: ds, env, env', e => by
    simp only [bindPts] at e
    split at e
    · rw [List.length_cons, bindPts_len ps e]; rfl
    · cases e
end

/-! ### iterators -/
structure ItOk (K : PySem.W.Frag) (cs : Cst) (J : L2.It) (ds : List D) (Cn : Hp → Hp → Prop) (Fp : Addr → Prop) : Prop where
  go : ∀ F H (i : Nat), Cn F H → i < ds.length → J.go i H
  stop : ∀ F H (i : Nat), Cn F H → ds.length ≤ i → J.stop i H
  yld : ∀ F H (env : AM.Env) (σ : L2.St) (i : Nat) x H' d, Cn F H → Rel K cs F H env σ → J.yld i H x H' → ds[i]? = some d →
    ∃ F', Rel K cs F' H' env σ ∧ Ext F H (Own env σ) F' H' (Own env σ) ∧ Cn F' H' ∧ RepD K cs F' d x
  keep : ∀ F H (O : Addr → Prop) F' H' (O' : Addr → Prop), Cn F H → Ext F H O F' H' O' → (∀ p, Fp p → ¬ O p) → Cn F' H'
  live : ∀ F H p, Cn F H → Fp p → H p ≠ none
theorem zipIdx_get {ds : List D} {i : Nat} {d : D} (h : (enumF ds)[i]? = some d) : ∃ x, ds[i]? = some x ∧ d = .tup [.int i, x] := by
  unfold enumF at h
  rw [List.getElem?_map, List.getElem?_zipIdx] at h
  cases e : ds[i]? with
  | none => rw [e] at h; cases h
  | some x =>
    rw [e] at h
    simp at h
    exact ⟨x, rfl, h.symm⟩
theorem enumF_length (ds : List D) : (enumF ds).length = ds.length := by simp [enumF]
theorem rd_live {H : Hp} {a : Addr} {u : HO} (h : Rd H a u) : H a ≠ none := by
  rcases h with h | ⟨o, h⟩ <;> (rw [h]; intro z; cases z)
theorem rd_keep {F H F' H' : Hp} {O O' : Addr → Prop} {a : Addr} {u : HO} (h : Rd H a u) (x : Ext F H O F' H' O') (n : ¬ O a) : Rd H' a u := by
  rcases h with h | ⟨o, h⟩
  · exact .inl (x.keep a _ h n)
  · exact .inr ⟨o, x.keep a _ h n⟩
theorem rd_upd2 {H : Hp} {a p : Addr} {u o : HO} (hp : H p = none) (h : Rd H a u) : Rd (upd H p o) a u := by
  have na : a ≠ p := fun z => rd_live h (by rw [z]; exact hp)
  unfold Rd
  rw [upd_ne na]
  exact h
theorem KpL.keep {K : PySem.W.Frag} {F H F' H' : Hp} {O O' : Addr → Prop} (x : Ext F H O F' H' O') : ∀ {b : Bool} {a : Addr} {vs : List V}, KpL K H b a vs → (b = false → ¬ O a) → KpL K H' b a vs
  | false, _, _, h, n => rd_keep (u := .lst _) h x (n rfl)
  | true, _, _, h, _ => h
theorem KpT.keep {K : PySem.W.Frag} {F H F' H' : Hp} {O O' : Addr → Prop} (x : Ext F H O F' H' O') : ∀ {b : Bool} {a : Addr} {vs : List V}, KpT K H b a vs → (b = false → ¬ O a) → KpT K H' b a vs
  | false, _, _, h, n => rd_keep (u := .tup _) h x (n rfl)
  | true, _, _, h, _ => h
theorem KpL.upd {K : PySem.W.Frag} {H : Hp} {p : Addr} {o : HO} (hp : H p = none) : ∀ {b : Bool} {a : Addr} {vs : List V}, KpL K H b a vs → KpL K (upd H p o) b a vs
  | false, _, _, h => rd_upd2 (u := .lst _) hp h
  | true, _, _, h => h
theorem KpT.upd {K : PySem.W.Frag} {H : Hp} {p : Addr} {o : HO} (hp : H p = none) : ∀ {b : Bool} {a : Addr} {vs : List V}, KpT K H b a vs → KpT K (upd H p o) b a vs
  | false, _, _, h => rd_upd2 (u := .tup _) hp h
  | true, _, _, h => h
theorem KpL.live {K : PySem.W.Frag} {H : Hp} : ∀ {b : Bool} {a : Addr} {vs : List V}, KpL K H b a vs → b = false → H a ≠ none
  | false, _, _, h, _ => rd_live (u := .lst _) h
  | true, _, _, _, e => by cases e
theorem KpT.live {K : PySem.W.Frag} {H : Hp} : ∀ {b : Bool} {a : Addr} {vs : List V}, KpT K H b a vs → b = false → H a ≠ none
  | false, _, _, h, _ => rd_live (u := .tup _) h
  | true, _, _, _, e => by cases e
theorem itl_ok {K : PySem.W.Frag} {b : Bool} {a : Addr} {ds : List D} : ItOk K cs (Itl K a) ds (fun F H => ∃ vs, KpL K H b a vs ∧ RepDs K cs F ds vs) (fun p => b = false ∧ p = a) where
  go := fun F H i ⟨vs, h, r⟩ hi => by
    rw [r.length] at hi
    exact ⟨vs, vs[i], h.at.sq, List.getElem?_eq_getElem hi⟩
  stop := fun F H i ⟨vs, h, r⟩ hi => ⟨vs, h.at.sq, by rw [← r.length]; exact hi⟩
  yld := fun F H env σ i x H' d ⟨vs, h, r⟩ rel ⟨e, y⟩ hd => by
    subst e
    obtain ⟨v, hv, rd⟩ := r.get hd
    have := y vs h.at.sq
    rw [hv] at this; cases this
    exact ⟨F, rel, Ext.refl _ _ _, ⟨vs, h, r⟩, rd⟩
  keep := fun F H O F' H' O' ⟨vs, h, r⟩ x n => ⟨vs, h.keep x fun z => n a ⟨z, rfl⟩, r.mono x.fr⟩
  live := fun F H p ⟨vs, h, r⟩ ⟨z, e⟩ => by rw [e]; exact h.live z
theorem itt_ok {K : PySem.W.Frag} {b : Bool} {a : Addr} {ds : List D} : ItOk K cs (Itt K a) ds (fun F H => ∃ vs, KpT K H b a vs ∧ RepDs K cs F ds vs) (fun p => b = false ∧ p = a) where
  go := fun F H i ⟨vs, h, r⟩ hi => by
    rw [r.length] at hi
    exact ⟨vs, vs[i], h.at, List.getElem?_eq_getElem hi⟩
  stop := fun F H i ⟨vs, h, r⟩ hi => ⟨vs, h.at, by rw [← r.length]; exact hi⟩
  yld := fun F H env σ i x H' d ⟨vs, h, r⟩ rel ⟨e, y⟩ hd => by
    subst e
    obtain ⟨v, hv, rd⟩ := r.get hd
    have := y vs h.at
    rw [hv] at this; cases this
    exact ⟨F, rel, Ext.refl _ _ _, ⟨vs, h, r⟩, rd⟩
  keep := fun F H O F' H' O' ⟨vs, h, r⟩ x n => ⟨vs, h.keep x fun z => n a ⟨z, rfl⟩, r.mono x.fr⟩
  live := fun F H p ⟨vs, h, r⟩ ⟨z, e⟩ => by rw [e]; exact h.live z
theorem itr_ok {K : PySem.W.Frag} {lo : Int} {n : Nat} : ItOk K cs (Itr lo n) ((List.range n).map fun (i : Nat) => D.int (lo + i)) (fun _ _ => True) (fun _ => False) where
  go := fun F H i _ hi => by
    show i < n
    simpa using hi
  stop := fun F H i _ hi => by
    show n ≤ i
    simpa using hi
  yld := fun F H env σ i x H' d _ rel ⟨e, y⟩ hd => by
    subst e y
    rw [List.getElem?_map] at hd
    cases q : (List.range n)[i]? with
    | none => rw [q] at hd; cases hd
    | some j =>
      rw [q] at hd
      have ij : i = j := by
        have := (List.getElem?_eq_some_iff.mp q).2
        simpa using this
      subst ij
      cases hd
      exact ⟨F, rel, Ext.refl _ _ _, trivial, .int _⟩
  keep := fun _ _ _ _ _ _ _ _ _ => trivial
  live := fun _ _ _ _ e => e.elim
theorem ite_ok {K : PySem.W.Frag} {b : Bool} {a : Addr} {ds : List D} : ItOk K cs (Ite K a) (enumF ds) (fun F H => ∃ vs, KpL K H b a vs ∧ RepDs K cs F ds vs) (fun p => b = false ∧ p = a) where
  go := fun F H i ⟨vs, h, r⟩ hi => by
    rw [enumF_length, r.length] at hi
    exact ⟨vs, vs[i], h.at.sq, List.getElem?_eq_getElem hi⟩
  stop := fun F H i ⟨vs, h, r⟩ hi => ⟨vs, h.at.sq, by rw [← r.length, ← enumF_length]; exact hi⟩
  yld := fun F H env σ i x H' d ⟨vs, h, r⟩ rel ⟨T, y, e, hT, e2, hy⟩ hd => by
    subst e e2
    obtain ⟨d0, h0, e⟩ := zipIdx_get hd
    subst e
    obtain ⟨v, hv, rd⟩ := r.get h0
    have ev := hy vs h.at.sq
    rw [hv] at ev
    have ev : v = y := Option.some.inj ev
    subst ev
    obtain ⟨r2, x⟩ := rel.newF (o := .tup [.int (i : Nat), v]) hT
    exact ⟨_, r2, x, ⟨vs, h.upd hT, r.mono x.fr⟩, .tup (.inl (.inl upd_same)) (.cons (.int _) (.cons (RepD.mono x.fr rd) .nil))⟩
  keep := fun F H O F' H' O' ⟨vs, h, r⟩ x n => ⟨vs, h.keep x fun z => n a ⟨z, rfl⟩, r.mono x.fr⟩
  live := fun F H p ⟨vs, h, r⟩ ⟨z, e⟩ => by rw [e]; exact h.live z
theorem zipF_get {ds es : List D} {i : Nat} {d : D} (h : (zipF ds es)[i]? = some d) : ∃ x y, ds[i]? = some x ∧ es[i]? = some y ∧ d = .tup [x, y] := by
  unfold zipF at h
  rw [List.getElem?_map] at h
  cases e : (ds.zip es)[i]? with
  | none => rw [e] at h; cases h
  | some p =>
    rw [e] at h
    obtain ⟨h1, h2⟩ := List.getElem?_zip_eq_some.mp e
    simp at h
    exact ⟨p.1, p.2, h1, h2, h.symm⟩
theorem zipF_length (ds es : List D) : (zipF ds es).length = min ds.length es.length := by simp [zipF]
theorem itz_ok {K : PySem.W.Frag} {ka kb : Bool} {a b : Addr} {ds es : List D} : ItOk K cs (Itz K a b) (zipF ds es) (fun F H => (∃ vs, KpL K H ka a vs ∧ RepDs K cs F ds vs) ∧ ∃ vs, KpL K H kb b vs ∧ RepDs K cs F es vs) (fun p => (ka = false ∧ p = a) ∨ (kb = false ∧ p = b)) where
  go := fun F H i ⟨⟨vs, h, r⟩, ws, g, q⟩ hi => by
    rw [zipF_length, r.length, q.length] at hi
    have h1 : i < vs.length := by omega
    have h2 : i < ws.length := by omega
    exact ⟨vs, ws, vs[i], ws[i], h.at.sq, g.at.sq, List.getElem?_eq_getElem h1, List.getElem?_eq_getElem h2⟩
  stop := fun F H i ⟨⟨vs, h, r⟩, ws, g, q⟩ hi => by
    rw [zipF_length, r.length, q.length] at hi
    exact ⟨vs, ws, h.at.sq, g.at.sq, by omega⟩
  yld := fun F H env σ i x H' d ⟨⟨vs, h, r⟩, ws, g, q⟩ rel ⟨T, y1, y2, e, hT, e2, hy1, hy2⟩ hd => by
    subst e e2
    obtain ⟨d1, d2, h1, h2, e⟩ := zipF_get hd
    subst e
    obtain ⟨v, hv, rd⟩ := r.get h1
    obtain ⟨w, hw, rd2⟩ := q.get h2
    have ev := hy1 vs h.at.sq
    rw [hv] at ev
    have ev : v = y1 := Option.some.inj ev
    subst ev
    have ew := hy2 ws g.at.sq
    rw [hw] at ew
    have ew : w = y2 := Option.some.inj ew
    subst ew
    obtain ⟨r2, x⟩ := rel.newF (o := .tup [v, w]) hT
    exact ⟨_, r2, x, ⟨⟨vs, h.upd hT, r.mono x.fr⟩, ws, g.upd hT, q.mono x.fr⟩, .tup (.inl (.inl upd_same)) (.cons (RepD.mono x.fr rd) (.cons (RepD.mono x.fr rd2) .nil))⟩
  keep := fun F H O F' H' O' ⟨⟨vs, h, r⟩, ws, g, q⟩ x n => ⟨⟨vs, h.keep x fun z => n a (.inl ⟨z, rfl⟩), r.mono x.fr⟩, ws, g.keep x fun z => n b (.inr ⟨z, rfl⟩), q.mono x.fr⟩
  live := fun F H p ⟨⟨vs, h, r⟩, ws, g, q⟩ e => by
    rcases e with ⟨z, e⟩ | ⟨z, e⟩
    · rw [e]; exact h.live z
    · rw [e]; exact g.live z
theorem itzt_ok {K : PySem.W.Frag} {ka kb : Bool} {a b : Addr} {ds es : List D} : ItOk K cs (RZ.ItzT K a b) (zipF ds es) (fun F H => (∃ vs, KpT K H ka a vs ∧ RepDs K cs F ds vs) ∧ ∃ vs, KpT K H kb b vs ∧ RepDs K cs F es vs) (fun p => (ka = false ∧ p = a) ∨ (kb = false ∧ p = b)) where
  go := fun F H i ⟨⟨vs, h, r⟩, ws, g, q⟩ hi => by
    rw [zipF_length, r.length, q.length] at hi
    have h1 : i < vs.length := by omega
    have h2 : i < ws.length := by omega
    exact ⟨vs, ws, vs[i], ws[i], h.at, g.at, List.getElem?_eq_getElem h1, List.getElem?_eq_getElem h2⟩
  stop := fun F H i ⟨⟨vs, h, r⟩, ws, g, q⟩ hi => by
    rw [zipF_length, r.length, q.length] at hi
    exact ⟨vs, ws, h.at, g.at, by omega⟩
  yld := fun F H env σ i x H' d ⟨⟨vs, h, r⟩, ws, g, q⟩ rel ⟨T, y1, y2, e, hT, e2, hy1, hy2⟩ hd => by
    subst e e2
    obtain ⟨d1, d2, h1, h2, e⟩ := zipF_get hd
    subst e
    obtain ⟨v, hv, rd⟩ := r.get h1
    obtain ⟨w, hw, rd2⟩ := q.get h2
    have ev := hy1 vs h.at
    rw [hv] at ev
    have ev : v = y1 := Option.some.inj ev
    subst ev
    have ew := hy2 ws g.at
    rw [hw] at ew
    have ew : w = y2 := Option.some.inj ew
    subst ew
    obtain ⟨r2, x⟩ := rel.newF (o := .tup [v, w]) hT
    exact ⟨_, r2, x, ⟨⟨vs, h.upd hT, r.mono x.fr⟩, ws, g.upd hT, q.mono x.fr⟩, .tup (.inl (.inl upd_same)) (.cons (RepD.mono x.fr rd) (.cons (RepD.mono x.fr rd2) .nil))⟩
  keep := fun F H O F' H' O' ⟨⟨vs, h, r⟩, ws, g, q⟩ x n => ⟨⟨vs, h.keep x fun z => n a (.inl ⟨z, rfl⟩), r.mono x.fr⟩, ws, g.keep x fun z => n b (.inr ⟨z, rfl⟩), q.mono x.fr⟩
  live := fun F H p ⟨⟨vs, h, r⟩, ws, g, q⟩ e => by
    rcases e with ⟨z, e⟩ | ⟨z, e⟩
    · rw [e]; exact h.live z
    · rw [e]; exact g.live z

theorem PI.imp {tg iter : Expr} {t t' : TI} (h : PI X tg iter t) (q : ∀ σ H R, t' σ H R → t σ H R) : PI X tg iter t' := ⟨fun pins s σ H R I w => h.run pins s σ H R I (q σ H R w)⟩
/-- a list or a tuple -/
def iSeq (K : PySem.W.Frag) (tl : TE) : TI := fun σ H R => tl σ H fun x H1 => ∃ a, x = .ref a ∧ (((∃ xs, SqL K H1 a xs) ∧ R (Itl K a) H1) ∨ ((∃ xs, SqT K H1 a xs) ∧ R (Itt K a) H1))
theorem pi_seq {tg l : Expr} {tl : TE} (hl : PE X l tl) : PI X tg l (iSeq X.K tl) := by
  refine ⟨fun pins s σ H R I h => ?_⟩
  refine thn (hl.run pins s σ H _ I h) fun v s1 ⟨x, H1, I1, r1, q1⟩ => ?_
  obtain ⟨a, e, ⟨⟨xs, hq⟩, q⟩ | ⟨⟨xs, hq⟩, q⟩⟩ := q1
  · subst e
    cases r1
    obtain ⟨its, rv, p, hz⟩ := I1.list hq
    refine wpAny_pyIter_list p.isList ?_
    refine ⟨s1.heap.objs.size, [s1.heap.objs.size], _, _, H1, rfl, I1.kept (t' := s1.toks) fun b o e => Heap.get?_push_of_some _ e, turn_list a _, ⟨_, Heap.get?_push_size _ rfl, rfl, rfl⟩, fun b hb => ?_, q⟩
    have e : b = s1.heap.objs.size := by simpa using hb
    subst e
    exact I1.fpOk (Nat.le_refl _) (I1.hok.fresh (Nat.le_refl _))
  · subst e
    cases r1
    obtain ⟨its, rv, p, hz⟩ := I1.tuple hq
    refine wpAny_pyIter_tuple (show s1.heap.IsTuple a its.toArray from p) ?_
    refine ⟨s1.heap.objs.size, [s1.heap.objs.size], _, _, H1, rfl, I1.kept (t' := s1.toks) fun b o e => Heap.get?_push_of_some _ e, turn_tuple a _, ⟨_, Heap.get?_push_size _ rfl, rfl, rfl⟩, fun b hb => ?_, q⟩
    have e : b = s1.heap.objs.size := by simpa using hb
    subst e
    exact I1.fpOk (Nat.le_refl _) (I1.hok.fresh (Nat.le_refl _))
/-- what a walk promises -/
def wI (W : WX) (K : PySem.W.Frag) (cs : Cst) (C : Cl) (it : AM.It) : TI := fun σ H R => ∃ F env, Rel K cs F H env σ ∧ Fit (evI C it env) (WxOf W K cs F H env σ) (fun ds env' =>
  ∀ F' H' J Cn Fp, Ext F H (Own env σ) F' H' (Own env' σ) → Rel K cs F' H' env' σ → ItOk K cs J ds Cn Fp → Cn F' H' → (∀ p, Fp p → ¬ Own (wipeE env' it.lk) σ p) → R J H')
end
end AM

set_option maxHeartbeats 4000000
/-! comprehensions -/
namespace AM
open PySem PySem.Spec PyProof.Rows L2
section
variable {K : PySem.W.Frag} {cs : Cst} {F H F1 H1 : Hp} {env env0 env9 : AM.Env} {σ σ0 σ9 σT : L2.St} {l own : List Nat}
theorem wipeE_length : ∀ l : List Nat, (wipeE env l).length = env.length
  | [] => rfl
  | v :: vs => by unfold wipeE; rw [List.length_set, wipeE_length vs]
theorem wipeE_out {i : Nat} : ∀ {l : List Nat}, i ∉ l → (wipeE env l)[i]? = env[i]?
  | [], _ => rfl
  | v :: vs, h => by
    rw [List.mem_cons, not_or] at h
    unfold wipeE
    rw [List.getElem?_set_ne (Ne.symm h.1)]
    exact wipeE_out h.2
theorem wipeE_some {i : Nat} {t : T} : ∀ {l : List Nat}, (wipeE env l)[i]? = some (some t) → i ∉ l ∧ env[i]? = some (some t)
  | [], h => ⟨by simp, h⟩
  | v :: vs, h => by
    unfold wipeE at h
    by_cases hi : i = v
    · subst hi
      by_cases hl : i < (wipeE env vs).length
      · rw [List.getElem?_set_self hl] at h; cases h
      · rw [List.getElem?_eq_none (by rw [List.length_set]; omega)] at h; cases h
    · rw [List.getElem?_set_ne (Ne.symm hi)] at h
      obtain ⟨a, b⟩ := wipeE_some h
      exact ⟨by rw [List.mem_cons, not_or]; exact ⟨hi, a⟩, b⟩
theorem backE_length : ∀ l : List Nat, (backE env env0 l).length = env.length
  | [] => rfl
  | v :: vs => by unfold backE; rw [List.length_set, backE_length vs]
theorem backE_out {i : Nat} : ∀ {l : List Nat}, i ∉ l → (backE env env0 l)[i]? = env[i]?
  | [], _ => rfl
  | v :: vs, h => by
    rw [List.mem_cons, not_or] at h
    unfold backE
    rw [List.getElem?_set_ne (Ne.symm h.1)]
    exact backE_out h.2
theorem backE_in {i : Nat} : ∀ {l : List Nat}, i ∈ l → i < env.length → (backE env env0 l)[i]? = some (env0.getD i none)
  | [], h, _ => by cases h
  | v :: vs, h, hl => by
    unfold backE
    by_cases hi : i = v
    · subst hi
      rw [List.getElem?_set_self (by rw [backE_length]; exact hl)]
    · rw [List.getElem?_set_ne (Ne.symm hi)]
      exact backE_in (by rcases List.mem_cons.mp h with z | z; exact absurd z hi; exact z) hl
theorem Rel.wiped (r : Rel K cs F H env σ) (h : ∀ i ∈ own, i ∈ l) : Rel K cs F H (wipeE env l) (wipe σ own) ∧
    ∀ p, Own (wipeE env l) (wipe σ own) p → ∃ (i : Nat) (t : T), i ∉ l ∧ env[i]? = some (some t) ∧ t.own = true ∧ σ[i]? = some (some (.ref p)) := by
  have out : ∀ i, i ∉ l → (wipe σ own)[i]? = σ[i]? := fun i hi => wipe_out fun z => hi (h i z)
  refine ⟨⟨by rw [wipeE_length, wipe_length]; exact r.len, r.fin, fun i t e => ?_, fun i j t u p e1 e2 o1 o2 s1 s2 => ?_⟩, fun p hp => ?_⟩
  · obtain ⟨a, b⟩ := wipeE_some e
    rw [out i a]
    exact r.slot i t b
  · obtain ⟨a, b⟩ := wipeE_some e1
    obtain ⟨c, d⟩ := wipeE_some e2
    rw [out i a] at s1
    rw [out j c] at s2
    exact r.sep i j t u p b d o1 o2 s1 s2
  · obtain ⟨i, t, e, o, s⟩ := hp
    obtain ⟨a, b⟩ := wipeE_some e
    rw [out i a] at s
    exact ⟨i, t, a, b, o, s⟩
theorem Rel.live (r : Rel K cs F H env σ) {p : Addr} (o : Own env σ p) : H p ≠ none := by
  obtain ⟨i, t, e, ow, s⟩ := o
  obtain ⟨v, hv, rt⟩ := r.slot i t e
  rw [s] at hv; cases hv
  cases t with
  | d _ => cases ow
  | l ds =>
    obtain ⟨q, vs, e2, h, _⟩ := rt
    cases e2
    rw [h]; intro z; cases z
  | m _ => exact rt.elim
  | o _ _ => exact rt.elim
/-- behind a loop: the slots of l are as they were ahead of it -/
theorem back_state {Ow : Addr → Prop} (r0 : Rel K cs F1 H1 env0 σ0) (x : Ext F1 H1 Ow F H (Own env9 σ9)) (hOw : ∀ p, Ow p → ∃ (i : Nat) (t : T), i ∉ l ∧ env0[i]? = some (some t) ∧ t.own = true ∧ σ0[i]? = some (some (.ref p)))
    (r9 : Rel K cs F H env9 σ9) (hl : env0.length = env9.length) (hT : σT.length = σ9.length) (hT1 : ∀ i ∈ l, σT[i]? = σ0[i]?) (hT2 : ∀ i, i ∉ l → σT[i]? = σ9[i]?) :
    Rel K cs F H (backE env9 env0 l) σT ∧ Ext F1 H1 (Own env0 σ0) F H (Own (backE env9 env0 l) σT) := by
  have cls : ∀ (i : Nat) (t : T), (backE env9 env0 l)[i]? = some (some t) → (i ∈ l ∧ env0[i]? = some (some t) ∧ σT[i]? = σ0[i]?) ∨ (i ∉ l ∧ env9[i]? = some (some t) ∧ σT[i]? = σ9[i]?) := fun i t e => by
    by_cases hi : i ∈ l
    · left
      have hlt : i < env9.length := by
        have := (List.getElem?_eq_some_iff.mp e).1
        rw [backE_length] at this
        exact this
      rw [backE_in hi hlt] at e
      exact ⟨hi, getD_some (Option.some.inj e), hT1 i hi⟩
    · right
      rw [backE_out hi] at e
      exact ⟨hi, e, hT2 i hi⟩
  have ow0 : ∀ p, Ow p → Own env0 σ0 p := fun p h => by
    obtain ⟨i, t, _, e, o, s⟩ := hOw p h
    exact ⟨i, t, e, o, s⟩
  have notOw : ∀ (i : Nat) (t : T) (p : Addr), i ∈ l → env0[i]? = some (some t) → t.own = true → σ0[i]? = some (some (.ref p)) → ¬ Ow p := fun i t p hi e o s z => by
    obtain ⟨j, u, hj, e2, o2, s2⟩ := hOw p z
    have := r0.sep i j t u p e e2 o o2 s s2
    subst this
    exact hj hi
  have mixed : ∀ (i j : Nat) (t u : T) (p : Addr), i ∈ l → env0[i]? = some (some t) → t.own = true → σ0[i]? = some (some (.ref p)) → env9[j]? = some (some u) → u.own = true → σ9[j]? = some (some (.ref p)) → False := fun i j t u p hi e o s e2 o2 s2 => by
    rcases x.own p ⟨j, u, e2, o2, s2⟩ with z | z
    · exact notOw i t p hi e o s z
    · exact r0.live ⟨i, t, e, o, s⟩ z
  refine ⟨⟨by rw [backE_length, hT]; exact r9.len, r9.fin, fun i t e => ?_, fun i j t u p e1 e2 o1 o2 s1 s2 => ?_⟩, ⟨x.fr, fun p o e n => x.keep p o e fun z => n (ow0 p z), fun p a b => (x.new p a b).imp (ow0 p) id, fun p hp => ?_⟩⟩
  · rcases cls i t e with ⟨hi, a, b⟩ | ⟨hi, a, b⟩
    · obtain ⟨v, hv, rt⟩ := r0.slot i t a
      exact ⟨v, by rw [b]; exact hv, RepT.ext x rt fun o p ev => notOw i t p hi a o (by rw [hv, ev])⟩
    · rw [b]
      exact r9.slot i t a
  · rcases cls i t e1 with ⟨hi, a, b⟩ | ⟨hi, a, b⟩
    · rw [b] at s1
      rcases cls j u e2 with ⟨hj, c, d⟩ | ⟨hj, c, d⟩
      · rw [d] at s2
        exact r0.sep i j t u p a c o1 o2 s1 s2
      · rw [d] at s2
        exact (mixed i j t u p hi a o1 s1 c o2 s2).elim
    · rw [b] at s1
      rcases cls j u e2 with ⟨hj, c, d⟩ | ⟨hj, c, d⟩
      · rw [d] at s2
        exact (mixed j i u t p hj c o2 s2 a o1 s1).elim
      · rw [d] at s2
        exact r9.sep i j t u p a c o1 o2 s1 s2
  · obtain ⟨i, t, e, o, s⟩ := hp
    rcases cls i t e with ⟨hi, a, b⟩ | ⟨hi, a, b⟩
    · rw [b] at s
      exact .inl ⟨i, t, a, o, s⟩
    · rw [b] at s
      exact (x.own p ⟨i, t, a, o, s⟩).imp (ow0 p) id
/-- an object that nobody holds is changed -/
theorem Rel.poke {p : Addr} {o u : HO} (r : Rel K cs F H env σ) (hF : F p = none) (hO : ¬ Own env σ p) : Rel K cs F (upd H p u) env σ := by
  have np : ∀ q, F q ≠ none → q ≠ p := fun q h z => h (by rw [z]; exact hF)
  refine ⟨r.len, ⟨fun q w hq => ?_, fun q xs hq => ?_⟩, fun j t e => ?_, r.sep⟩
  · have qp : q ≠ p := np q (by rcases hq with z | ⟨o, z⟩ <;> (rw [z]; intro y; cases y))
    have := r.fin.1 q w hq
    unfold Rd at this ⊢
    rw [upd_ne qp]
    exact this
  · have qp : q ≠ p := np q (by rw [hq]; intro y; cases y)
    rw [upd_ne qp]
    exact r.fin.2 q xs hq
  · obtain ⟨v, hv, rt⟩ := r.slot j t e
    refine ⟨v, hv, ?_⟩
    cases t with
    | d d => exact rt
    | l es =>
      obtain ⟨q, ws, e2, g1, g2, g3⟩ := rt
      have qp : q ≠ p := fun z => hO ⟨j, .l es, e, rfl, by rw [hv, e2, z]⟩
      exact ⟨q, ws, e2, by rw [upd_ne qp]; exact g1, g2, g3⟩
    | m _ => exact rt.elim
    | o _ _ => exact rt.elim
end

theorem Fit.noexE {α : Type} {r : R α} {Wx : AM.X → AM.Env → Prop} {Kk : α → AM.Env → Prop} (h : Fit r.noex Wx Kk) : Fit r (fun _ _ => False) Kk := by
  cases r <;> exact h
theorem lcL_fit {b : D → AM.Env → R (Option D)} {Wx : AM.X → AM.Env → Prop} {Kk : List D → AM.Env → Prop} : ∀ (ds acc : List D) (env : AM.Env), Fit (lcL b ds acc env) Wx Kk → Fit (lcL b ds acc env) (fun _ _ => False) Kk
  | [], _, _, h => h
  | d :: ds, acc, env, h => by
    unfold lcL at h ⊢
    refine Fit.unbind ?_
    have h1 := h.bind
    cases e : (b d env) with
    | ok o env' =>
      rw [e] at h1
      have h1 : Fit (match o with
        | none => lcL b ds acc env'
        | some x => if acc.length < sizeLine then lcL b ds (acc ++ [x]) env' else .no) Wx Kk := h1
      show Fit (match o with
        | none => lcL b ds acc env'
        | some x => if acc.length < sizeLine then lcL b ds (acc ++ [x]) env' else .no) _ Kk
      cases o with
      | none => exact lcL_fit ds acc env' h1
      | some x =>
        by_cases hz : acc.length < sizeLine
        · simp only [if_pos hz] at h1 ⊢
          exact lcL_fit ds _ env' h1
        · simp only [if_neg hz] at h1
          exact h1.elim
    | ex x env' => rw [e] at h1; exact h1.elim
    | no => rw [e] at h1; exact h1.elim
theorem wipe_eq {σ σ2 : L2.St} {own : List Nat} (hl : σ2.length = σ.length) (h : ∀ j, j ∉ own → σ2[j]? = (wipe σ own)[j]?) : wipe σ2 own = wipe σ own := by
  refine List.ext_getElem? fun i => ?_
  by_cases hi : i ∈ own
  · have none : ∀ (τ : L2.St) (vs : List Nat), i ∈ vs → (wipe τ vs)[i]? = if i < τ.length then some Option.none else Option.none := by
      intro τ vs
      induction vs with
      | nil => intro z; cases z
      | cons v vs ih =>
        intro z
        unfold wipe
        by_cases e : i = v
        · subst e
          by_cases hlt : i < τ.length
          · rw [List.getElem?_set_self (by rw [wipe_length]; exact hlt), if_pos hlt]
          · rw [List.getElem?_eq_none (by rw [List.length_set, wipe_length]; omega), if_neg hlt]
        · rw [List.getElem?_set_ne (Ne.symm e)]
          exact ih (by rcases List.mem_cons.mp z with q | q; exact absurd q e; exact q)
    rw [none σ2 own hi, none σ own hi, hl]
  · rw [wipe_out hi, h i hi]

section
variable {P : Tx} {G : Ck} {k : Nat} {cs : Cst} {W : WX} {N : List Str} {sc : Scope} {X : Cx} {C : Cl}
abbrev noW : WX := fun _ _ _ _ => False
/-- a comprehension's test -/
def tOe (W : WX) (K : PySem.W.Frag) (cs : Cst) (C : Cl) (c : Oe) : TT := fun σ H Q => ∃ F env, Rel K cs F H env σ ∧ Fit (evO C c env) (WxOf W K cs F H env σ) (KbOf K cs F H env σ Q)
/-- one turn -/
def lcTurn (C : Cl) (own : List Nat) (p : Pt) (ifs : Oe) (e : E) (d : D) (env1 : AM.Env) : R (Option D) := match bindPt p d env1 with
  | none => .no
  | some env2 => (evO C ifs env2).bind fun k env3 => match k with
    | false => .ok none (wipeE env3 own)
    | true => (evE C e env3).bind fun t env4 => .ok (some t.snap) (wipeE env4 own)
theorem lc_ev (own : List (Str × Nat)) (p : Pt) (it : AM.It) (ifs : Oe) (e : E) (env : AM.Env) : evE C (.lc own p it ifs e) env = (evI C it env).bind fun ds env0 =>
    (lcL (lcTurn C (ownIx own) p ifs e) ds [] (wipeE env0 (ownIx own ++ it.lk))).bind fun out env9 => .ok (.l out) (backE env9 env0 (ownIx own ++ it.lk)) := by
  simp only [evE]
  rfl
theorem lc_read {K : PySem.W.Frag} {own : List (Str × Nat)} {p : Pt} {it : AM.It} {ifs : Oe} {e : E} {F H : Hp} {env : AM.Env} {σ : L2.St} {Q : VK} (hp : ∀ i ∈ p.slots, i ∈ ownIx own) (rel : Rel K cs F H env σ)
    (f : Fit (evE C (.lc own p it ifs e) env) (WxOf W K cs F H env σ) (KeOf K cs F H env σ Q)) : tLc (wI W K cs C it) (gPt K p) (tOe noW K cs C ifs) (tE noW K cs C e) (ownIx own) σ H Q := by
  rw [lc_ev] at f
  refine ⟨F, env, rel, f.bind.mono (fun _ _ z => z) fun ds env0 g F1 H1 J Cn Fp x1 r1 jo cn nfp => ?_⟩
  intro Dn hDn
  have g := lcL_fit ds [] _ g.bind
  obtain ⟨L, hL⟩ : ∃ L, L = ownIx own ++ it.lk := ⟨_, rfl⟩
  obtain ⟨O, hO⟩ : ∃ O, O = ownIx own := ⟨_, rfl⟩
  rw [← hL, ← hO] at g
  rw [← hO]
  have sub : ∀ i ∈ O, i ∈ L := fun i hi => by rw [hL]; exact List.mem_append_left _ (by rw [← hO]; exact hi)
  have subk : ∀ i ∈ it.lk, i ∈ L := fun i hi => by rw [hL]; exact List.mem_append_right _ hi
  obtain ⟨rw1, ow1⟩ := r1.wiped (own := O) (l := L) sub
  have nfp1 : ∀ q, Fp q → ¬ Own (wipeE env0 L) (L2.wipe σ O) q := fun q hq z => by
    obtain ⟨i, t, hi, e, o, s⟩ := ow1 q z
    exact nfp q hq ⟨i, t, by rw [wipeE_out fun z => hi (subk i z)]; exact e, o, s⟩
  let Wv : Nat → Nat → Hp → Prop := fun i m H' => m = ds.length - i ∧ i ≤ ds.length ∧ ∃ F' env' acc vs, Rel K cs F' H' env' (L2.wipe σ O) ∧ Ext F1 H1 (Own (wipeE env0 L) (L2.wipe σ O)) F' H' (Own env' (L2.wipe σ O)) ∧ Cn F' H' ∧
    H' Dn = some (.lst vs) ∧ F' Dn = none ∧ ¬ Own env' (L2.wipe σ O) Dn ∧ RepDs K cs F' acc vs ∧ env'.length = env0.length ∧
    Fit (lcL (lcTurn C O p ifs e) (ds.drop i) acc env') (fun _ _ => False) (fun out env9 => Fit (R.ok (T.l out) (backE env9 env0 L)) (WxOf W K cs F H env σ) (KeOf K cs F H env σ Q))
  have nofp : ∀ {F' H' : Hp} {env' : AM.Env}, Ext F1 H1 (Own (wipeE env0 L) (L2.wipe σ O)) F' H' (Own env' (L2.wipe σ O)) → ∀ q, Fp q → ¬ Own env' (L2.wipe σ O) q := fun x q hq z => by
    rcases x.own q z with y | y
    · exact nfp1 q hq y
    · exact jo.live F1 H1 q cn hq y
  have nDn : ∀ q, Fp q → q ≠ Dn := fun q hq z => by
    subst z
    exact jo.live F1 H1 _ cn hq hDn
  have pokeE : ∀ (F' H' : Hp) (u : HO), Ext F' H' (fun q => q = Dn) F' (upd H' Dn u) (fun q => q = Dn) := fun F' H' u => ⟨Sub.refl _, fun q o e n => by rw [upd_ne n]; exact e, fun q a b => absurd b a, fun q h => .inl h⟩
  have pokeX : ∀ {F' H' : Hp} {env' : AM.Env} (u : HO), Ext F1 H1 (Own (wipeE env0 L) (L2.wipe σ O)) F' H' (Own env' (L2.wipe σ O)) → Ext F1 H1 (Own (wipeE env0 L) (L2.wipe σ O)) F' (upd H' Dn u) (Own env' (L2.wipe σ O)) := fun {F' H' env'} u x =>
    ⟨x.fr, fun q o e n => by
      have qd : q ≠ Dn := fun z => by rw [z, hDn] at e; cases e
      rw [upd_ne qd]
      exact x.keep q o e n, x.new, x.own⟩
  refine ⟨Wv, ⟨ds.length, by simp, Nat.zero_le _, ?_⟩, ?_⟩
  · obtain ⟨r2, x2, f2, o2⟩ := rw1.newO (o := .lst []) hDn
    exact ⟨F1, wipeE env0 L, [], [], r2, x2, jo.keep _ _ _ _ _ _ cn x2 nfp1, upd_same, f2, o2, .nil, wipeE_length L, g⟩
  · rintro i m H' ⟨rfl, hi, F', env', acc, vs, r', x', cn', hd', fd', od', ra, le, g'⟩
    by_cases hlt : i < ds.length
    · right
      refine ⟨jo.go F' H' i cn' hlt, fun H'' => Wv (i + 1) (ds.length - (i + 1)) H'', fun H'' w => ⟨_, by omega, w⟩, fun x H2 y => ?_⟩
      have hdr : ds.drop i = ds[i] :: ds.drop (i + 1) := List.drop_eq_getElem_cons hlt
      rw [hdr] at g'
      unfold lcL at g'
      have g1 := g'.bind.noexE
      obtain ⟨F2, r2, x2, cn2, rd⟩ := jo.yld F' H' env' (L2.wipe σ O) i x H2 ds[i] cn' r' y (List.getElem?_eq_getElem hlt)
      have hd2 : H2 Dn = some (.lst vs) := x2.keep _ _ hd' od'
      have fd2 : F2 Dn = none := by
        cases z : F2 Dn with
        | none => rfl
        | some o =>
          rcases x2.new Dn (by rw [z]; intro q; cases q) fd' with q | q
          · exact absurd q od'
          · rw [hd'] at q; cases q
      unfold lcTurn at g1
      cases eb : bindPt p ds[i] env' with
      | none => rw [eb] at g1; exact g1.elim
      | some env2 =>
        rw [eb] at g1
        have g1 := Fit.bind g1
        refine bind_run p eb r2 rd fun σ2 r3 o3 s3 l3 => ?_
        have we : L2.wipe σ2 O = L2.wipe σ O := wipe_eq (by rw [l3, wipe_length]) fun j hj => s3 j fun z => hj (by rw [hO]; exact hp j z)
        have hb : Ext F1 H1 (Own (wipeE env0 L) (L2.wipe σ O)) F2 H2 (Own env2 σ2) := ⟨(x'.trans x2).fr, (x'.trans x2).keep, (x'.trans x2).new, fun q z => (x'.trans x2).own q (o3 q z)⟩
        have lb : env2.length = env'.length := by
          have a := r3.len
          have b := r2.len
          rw [a, b, l3]
        -- behind the turn
        have again : ∀ {F5 H5 : Hp} {env5 : AM.Env} {acc5 : List D} {vs5 : List V}, Ext F2 H2 (Own env2 σ2) F5 H5 (Own env5 σ2) → Rel K cs F5 H5 env5 σ2 → env5.length = env2.length → (∃ u, H5 Dn = some (.lst u)) → RepDs K cs F5 acc5 vs5 →
            Fit (lcL (lcTurn C O p ifs e) (ds.drop (i + 1)) acc5 (wipeE env5 O)) (fun _ _ => False) (fun out env9 => Fit (R.ok (T.l out) (backE env9 env0 L)) (WxOf W K cs F H env σ) (KeOf K cs F H env σ Q)) → Wv (i + 1) (ds.length - (i + 1)) (upd H5 Dn (.lst vs5)) := by
          intro F5 H5 env5 acc5 vs5 x5 r5 l5 ⟨u5, hd5⟩ ra5 g5
          obtain ⟨rw5, ow5⟩ := r5.wiped (own := O) (l := O) fun _ z => z
          rw [we] at rw5 ow5
          have xt := hb.trans x5
          have xw : Ext F1 H1 (Own (wipeE env0 L) (L2.wipe σ O)) F5 H5 (Own (wipeE env5 O) (L2.wipe σ O)) := ⟨xt.fr, xt.keep, xt.new, fun q z => xt.own q (by
            obtain ⟨j, t, _, e, o, s⟩ := ow5 q z
            exact ⟨j, t, e, o, s⟩)⟩
          have odn : ¬ Own env2 σ2 Dn := fun z => od' (o3 Dn z)
          have fd5 : F5 Dn = none := by
            cases z : F5 Dn with
            | none => rfl
            | some o =>
              rcases x5.new Dn (by rw [z]; intro q; cases q) fd2 with q | q
              · exact absurd q odn
              · rw [hd2] at q; cases q
          have od5 : ¬ Own (wipeE env5 O) (L2.wipe σ O) Dn := fun z => by
            obtain ⟨j, t, _, e, o, s⟩ := ow5 Dn z
            rcases x5.own Dn ⟨j, t, e, o, s⟩ with q | q
            · exact odn q
            · rw [hd2] at q; cases q
          have cn5 : Cn F5 H5 := jo.keep _ _ _ _ _ _ cn2 x5 fun q hq z => nofp x' q hq (o3 q z)
          have cn6 : Cn F5 (upd H5 Dn (.lst vs5)) := jo.keep _ _ _ _ _ _ cn5 (pokeE F5 H5 _) fun q hq z => nDn q hq z
          exact ⟨rfl, hlt, F5, wipeE env5 O, acc5, vs5, rw5.poke (o := .lst u5) fd5 od5, pokeX _ xw, cn6, upd_same, fd5, od5, ra5, by rw [wipeE_length, l5, lb, le], g5⟩
        refine ⟨we, F2, env2, r3, g1.mono (fun _ _ z => z.elim) fun b env3 g2 F3 H3 x3 r4 => ?_⟩
        have len3 : env3.length = env2.length := by rw [r4.len, r3.len]
        have hd3 : H3 Dn = some (.lst vs) := x3.keep _ _ hd2 fun z => od' (o3 Dn z)
        cases b with
        | false =>
          refine iteF ?_
          have w := again x3 r4 len3 ⟨_, hd3⟩ (ra.mono (x2.fr.trans x3.fr)) g2
          have id : upd H3 Dn (.lst vs) = H3 := by
            funext b
            by_cases hb : b = Dn
            · subst hb; rw [upd_same, hd3]
            · rw [upd_ne hb]
          rw [id] at w
          exact w
        | true =>
          refine iteT ⟨F3, env3, r4, (Fit.bind g2).mono (fun _ _ z => z.elim) fun t env4 g3 v F4 H4 po => ?_⟩
          obtain ⟨F5, p5, s5⟩ := po.kept
          have len4 : env4.length = env2.length := by rw [p5.rel.len, r3.len]
          have ext5 := x3.trans p5.ext
          have odn : ¬ Own env2 σ2 Dn := fun z => od' (o3 Dn z)
          have hd4 : H4 Dn = some (.lst vs) := ext5.keep _ _ hd2 odn
          have g3 : Fit (if acc.length < sizeLine then lcL (lcTurn C O p ifs e) (ds.drop (i + 1)) (acc ++ [t.snap]) (wipeE env4 O) else .no) (fun _ _ => False) _ := g3
          by_cases hz : acc.length < sizeLine
          · rw [if_pos hz] at g3
            refine ⟨vs, hd4, by rw [← ra.length]; exact hz, ?_⟩
            have ra5 : RepDs K cs F5 (acc ++ [t.snap]) (vs ++ [v]) := (ra.mono (x2.fr.trans ext5.fr)).append (.cons p5.rep .nil)
            exact again ext5 p5.rel len4 ⟨_, hd4⟩ ra5 g3
          · rw [if_neg hz] at g3
            exact g3.elim
    · left
      have e : i = ds.length := by omega
      subst e
      refine ⟨jo.stop F' H' _ cn' (Nat.le_refl _), ?_⟩
      rw [List.drop_length] at g'
      have g' : KeOf K cs F H env σ Q (.l acc) (backE env' env0 L) := g'
      obtain ⟨rb, xb⟩ := back_state (l := L) (σT := σ) r1 x' ow1 r' le.symm (by rw [wipe_length]) (fun _ _ => rfl) fun j hj => (wipe_out fun z => hj (sub j z)).symm
      have xx := x1.trans xb
      have nb : Own env σ Dn ∨ H Dn = none := by
        by_cases h1 : Own env σ Dn
        · exact .inl h1
        · right
          cases e : H Dn with
          | none => rfl
          | some u => have := x1.keep Dn u e h1; rw [hDn] at this; cases this
      refine g' (.ref Dn) F' H' ⟨xx, rb, ⟨Dn, vs, rfl, hd', fd', ra⟩, fun _ q eq => ?_⟩
      cases eq
      refine ⟨fun z => ?_, nb⟩
      obtain ⟨j, t, ej, oj, sj⟩ := z
      by_cases hj : j ∈ L
      · have hlt2 : j < env'.length := by
          have := (List.getElem?_eq_some_iff.mp ej).1
          rw [backE_length] at this
          exact this
        rw [backE_in hj hlt2] at ej
        exact r1.live ⟨j, t, getD_some (Option.some.inj ej), oj, sj⟩ hDn
      · rw [backE_out hj] at ej
        exact od' ⟨j, t, ej, oj, by rw [wipe_out fun z => hj (sub j z)]; exact sj⟩
end
end AM

set_option maxHeartbeats 8000000
/-! expressions: all together -/
namespace AM
open PySem PySem.Spec PyProof.Rows L2
section
variable {P : Tx} {G : Ck} {k : Nat} {cs : Cst}

theorem Good.blk {W : WX} {N : List Str} {sc : Scope} {X : Cx} (g : Good P G k cs W N sc X) (scope : Scope) (s : Shared) (H : Hp) (C : Addr) (cl : List (Str × Addr)) (fp : List Addr) : Good P G k cs noW N (relS scope sc) (X.blk s H scope (compEnvC scope cl C X.env) fp) where
  hN := g.hN
  hsc := by rw [← g.hsc]; rfl
  nd := g.nd
  calm := g.calm
  room := g.room
  takes := takes0
  pass := PassesOwn.never
  fns := g.fns
  eqs := g.eqs
  prs := g.prs
  free := g.free
  glob := g.glob
theorem locB_blk {W : WX} {N : List Str} {sc : Scope} {X : Cx} (g : Good P G k cs W N sc X) (scope : Scope) (s : Shared) (H : Hp) (C : Addr) (cl : List (Str × Addr)) (fp : List Addr) (x : Str) (h : locB scope x = true) :
    Loc (X.blk s H scope (compEnvC scope cl C X.env) fp).env.scope x ∧ ((X.blk s H scope (compEnvC scope cl C X.env) fp).fn x = true ∨ (X.blk s H scope (compEnvC scope cl C X.env) fp).env.scope.names.lookup x = some .local) := by
  have e : (X.blk s H scope (compEnvC scope cl C X.env) fp).env.scope = relS scope sc := (g.blk scope s H C cl fp).hsc
  rw [e]
  rcases locB_of h with h | h
  · have := lookup_relS_keep (sc := sc) (by decide) h
    exact ⟨.inl this, .inr this⟩
  · have := lookup_relS_keep (sc := sc) (by decide) h
    refine ⟨.inr this, .inl ?_⟩
    show (scope.names.lookup x == some .cell) = true
    rw [h]
    rfl

/-- what is shown of an expression -/
def SndE (P : Tx) (G : Ck) (k : Nat) (cs : Cst) (c : E) : Prop := ∀ (t : Bool) (N : List Str) (sc : Scope) (X : Cx) (W : WX) (e : Expr), Good P G k cs W N sc X → chkE G N sc t c e = true →
  (t = false → PE X e (tE W X.K cs (clOf P k) c)) ∧ (t = true → PT X e (tT W X.K cs (clOf P k) c)) ∧ (t = true → ∀ o xs pos, e = .BoolOp o xs pos → PW X e (tT W X.K cs (clOf P k) c))
def SndEs (P : Tx) (G : Ck) (k : Nat) (cs : Cst) (es : Es) : Prop := ∀ (N : List Str) (sc : Scope) (X : Cx) (W : WX) (xs : List Expr), Good P G k cs W N sc X → chkEs G N sc es xs = true → EsOk X W cs (clOf P k) es xs
def SndO (P : Tx) (G : Ck) (k : Nat) (cs : Cst) (o : Oe) : Prop := (∀ (N : List Str) (sc : Scope) (X : Cx) (W : WX) (xs : List Expr), Good P G k cs W N sc X → chkO G N sc o xs = true → PTs X xs (tOe W X.K cs (clOf P k) o)) ∧
  ∀ (N : List Str) (sc : Scope) (X : Cx) (W : WX) (y : Option Expr), Good P G k cs W N sc X → chkP G N sc o y = true → (o = .no ∧ y = none) ∨ ∃ c z, o = .yes c ∧ y = some z ∧ PE X z (tE W X.K cs (clOf P k) c)
def SndI (P : Tx) (G : Ck) (k : Nat) (cs : Cst) (it : AM.It) : Prop := ∀ (N : List Str) (sc : Scope) (X : Cx) (W : WX) (tg e : Expr), Good P G k cs W N sc X → chkI G N sc it e = true → tgtB it tg = true → PI X tg e (wI W X.K cs (clOf P k) it) ∧ ∀ env x, foldedSetIterable e env x = pure x

/-- value and test at once, of what is just a value -/
theorem val_both {X : Cx} {W : WX} {C : Cl} {c : E} {e : Expr} (t : Bool) (h : PE X e (tE W X.K cs C c)) (hp : plainT e = true) (hb : ∀ o xs pos, e ≠ .BoolOp o xs pos) :
    (t = false → PE X e (tE W X.K cs C c)) ∧ (t = true → PT X e (tT W X.K cs C c)) ∧ (t = true → ∀ o xs pos, e = .BoolOp o xs pos → PW X e (tT W X.K cs C c)) :=
  ⟨fun _ => h, fun _ => test_of h hp, fun _ o xs pos e => absurd e (hb o xs pos)⟩
theorem fold_pure {e : Expr} (h : isSet e = false) (env : PySem.Env) (x : Value) : foldedSetIterable e env x = pure x := by
  cases e <;> first | rfl | (cases h; done)
/-- an operand -/
theorem opd_pe {W : WX} {N : List Str} {sc : Scope} {X : Cx} (g : Good P G k cs W N sc X) {c : E} {e : Expr} (h : chkE G N sc false c e = true) (ih : SndE P G k cs c) : PE X e (tO W X.K cs (clOf P k) c) := by
  unfold tO
  cases hs : slotOf c with
  | some i =>
    have := slotOf_some hs
    subst this
    cases e <;> first | (simp [chkE] at h; done) | skip
    unfold chkE at h
    exact pe_name g h
  | none => exact (ih false N sc X W e g h).1 rfl
theorem opd_run {K : PySem.W.Frag} {C : Cl} {c : E} {F H : Hp} {env : AM.Env} {σ : L2.St} {W : WX} {Kk : D → AM.Env → Prop} {Q : VK} (r : Rel K cs F H env σ) (f : Fit (opd (slotOf c) (evE C c) env) (WxOf W K cs F H env σ) Kk)
    (h : ∀ d env' v F' H', Ext F H (Own env σ) F' H' (Own env' σ) → Rel K cs F' H' env' σ → RepV K cs F' H' d v → (∀ p, v = .ref p → (∃ i t, slotOf c = some i ∧ env'[i]? = some (some t) ∧ σ[i]? = some (some v) ∧ RepT K cs F' H' t v ∧ t.snap = d) ∨ RepD K cs F' d v) → Kk d env' → Q v H') : tO W K cs C c σ H Q := by
  unfold tO
  unfold opd at f
  cases hs : slotOf c with
  | some i =>
    rw [hs] at f
    simp only at f
    split at f
    · rename_i t ht
      obtain ⟨v, hv, rt⟩ := r.get ht
      exact ⟨v, hv, h _ env v F H (Ext.refl _ _ _) r rt.snap (fun p e => .inl ⟨i, t, hs, getD_some ht, hv, rt, rfl⟩) f⟩
    · exact f.elim
  | none =>
    rw [hs] at f
    simp only at f
    refine ⟨F, env, r, f.bind.mono (fun _ _ z => z) fun t env' q v F' H' p => ?_⟩
    obtain ⟨F2, p2, s⟩ := p.kept
    exact h _ env' v F2 H' p2.ext p2.rel (.fz p2.rep) (fun p e => .inr p2.rep) q
/-- what stays is nobody's own -/
theorem notOwnD {K : PySem.W.Frag} {F H : Hp} {env : AM.Env} {σ : L2.St} {p : Addr} (r : Rel K cs F H env σ) (h : F p ≠ none) : ¬ Own env σ p := by
  rintro ⟨i, t, e, ow, s⟩
  obtain ⟨v, hv, rt⟩ := r.slot i t e
  rw [s] at hv; cases hv
  cases t with
  | d _ => cases ow
  | l ds =>
    obtain ⟨q, vs, e2, h1, h2, _⟩ := rt
    cases e2
    exact h h2
  | m _ => exact rt.elim
  | o _ _ => exact rt.elim

/-- where an operand stands: a locked slot's own, or kept -/
def Stood (K : PySem.W.Frag) (cs : Cst) (F : Hp) (env : AM.Env) (σ : L2.St) (l : List Nat) (d : D) (v : V) : Prop := (∃ (i : Nat) (t : T), i ∈ l ∧ env[i]? = some (some t) ∧ t.own = true ∧ σ[i]? = some (some v)) ∨ RepD K cs F d v
theorem stood_l {K : PySem.W.Frag} {F H : Hp} {env : AM.Env} {σ : L2.St} {l : List Nat} {ds : List D} {v : V} (r : Rel K cs F H env σ) (rv : RepV K cs F H (.lst ds) v) (h : Stood K cs F env σ l (.lst ds) v) :
    ∃ p vs b, v = .ref p ∧ KpL K H b p vs ∧ RepDs K cs F ds vs ∧ (b = false → ¬ Own (wipeE env l) σ p) := by
  rcases h with ⟨i, t, hi, e, ht, s⟩ | h
  · obtain ⟨v', hv, rt⟩ := r.slot i t e
    rw [s] at hv; cases hv
    cases t with
    | d _ => cases ht
    | l es =>
      obtain ⟨p, vs, rfl, h1, h2, h3⟩ := rt
      cases rv with
      | fz q =>
        cases q with
        | lst q q2 =>
          rcases q with q | q
          · exact absurd h2 (rd_live q)
          · exact ⟨p, _, true, rfl, q, q2, fun z => by cases z⟩
      | ol q q2 =>
        refine ⟨p, _, false, rfl, .inl q, q2, fun _ => ?_⟩
        rintro ⟨j, u, e2, ow, s2⟩
        obtain ⟨a, b⟩ := wipeE_some e2
        exact a ((r.sep i j _ u p e b ht ow s s2) ▸ hi)
    | m _ => exact rt.elim
    | o _ _ => exact rt.elim
  · cases h with
    | @lst p vs _ q q2 =>
      rcases q with q | q
      · refine ⟨p, vs, false, rfl, r.fin.1 _ _ q, q2, fun _ => ?_⟩
        rintro ⟨j, u, e2, ow, s2⟩
        obtain ⟨a, b⟩ := wipeE_some e2
        exact notOwnD r (rd_live q) ⟨j, u, b, ow, s2⟩
      · exact ⟨p, vs, true, rfl, q, q2, fun z => by cases z⟩
theorem stood_t {K : PySem.W.Frag} {F H : Hp} {env : AM.Env} {σ : L2.St} {l : List Nat} {ds : List D} {v : V} (r : Rel K cs F H env σ) (rv : RepV K cs F H (.tup ds) v) :
    ∃ p vs b, v = .ref p ∧ KpT K H b p vs ∧ RepDs K cs F ds vs ∧ (b = false → ¬ Own (wipeE env l) σ p) := by
  cases rv with
  | fz h =>
    cases h with
    | @tup p vs _ q q2 =>
      rcases q with q | q
      · refine ⟨p, vs, false, rfl, r.fin.1 _ _ q, q2, fun _ => ?_⟩
        rintro ⟨j, u, e2, ow, s2⟩
        obtain ⟨a, b⟩ := wipeE_some e2
        exact notOwnD r (rd_live q) ⟨j, u, b, ow, s2⟩
      · exact ⟨p, vs, true, rfl, q, q2, fun z => by cases z⟩
theorem opd_stood {K : PySem.W.Frag} {F H : Hp} {env : AM.Env} {σ : L2.St} {c : E} {d : D} {v : V} (h : (∃ i t, slotOf c = some i ∧ env[i]? = some (some t) ∧ σ[i]? = some (some v) ∧ RepT K cs F H t v ∧ t.snap = d) ∨ RepD K cs F d v) : Stood K cs F env σ (slotOf c).toList d v := by
  rcases h with ⟨i, t, hs, e, s, rt, rfl⟩ | h
  · cases ho : t.own with
    | true => exact .inl ⟨i, t, by rw [hs]; simp, e, ho, s⟩
    | false =>
      cases t with
      | d d => exact .inr rt
      | _ => cases ho
  · exact .inr h
/-- the operands with where they stand -/
theorem ops_stood {K : PySem.W.Frag} {C : Cl} {W : WX} {σ : L2.St} : ∀ (es : Es) {F H : Hp} {env : AM.Env} {Kk : List D → AM.Env → Prop}, Rel K cs F H env σ → Fit (evEs C es env) (WxOf W K cs F H env σ) Kk →
    tOs W K cs C es σ H fun xs H2 => ∃ F2 ds env2, Ext F H (Own env σ) F2 H2 (Own env2 σ) ∧ Rel K cs F2 H2 env2 σ ∧ RepVs K cs F2 H2 ds xs ∧ (∀ (n : Nat) d v, ds[n]? = some d → xs[n]? = some v → Stood K cs F2 env2 σ es.lk d v) ∧ Kk ds env2
  | .nil, F, H, env, Kk, r, f => ⟨F, [], env, Ext.refl _ _ _, r, .nil, fun n d v e => by simp at e, f⟩
  | .cons e es, F, H, env, Kk, r, f => by
    unfold evEs at f
    cases hs : slotOf e with
    | some i =>
      rw [hs] at f
      simp only at f
      show tO W K cs C e σ H _
      unfold tO
      rw [hs]
      split at f
      · rename_i t0 h0
        obtain ⟨v, hv, _⟩ := r.get h0
        refine ⟨v, hv, tOs.mono (ops_stood es r f.bind) fun xs H2 ⟨F2, ds, env2, x, r2, rs, st, k⟩ => ?_⟩
        split at k
        · rename_i t ht
          obtain ⟨w, hw, rt⟩ := r2.get ht
          rw [hv] at hw; cases hw
          refine ⟨F2, _, env2, x, r2, .cons rt.snap rs, fun n d w h1 h2 => ?_, k⟩
          have lk : (Es.cons e es).lk = i :: es.lk := by rw [Es.lk, hs]
          rw [lk]
          cases n with
          | zero =>
            have h1 : t.snap = d := by simpa using h1
            have h2 : v = w := by simpa using h2
            subst h1 h2
            cases ho : t.own with
            | true => exact .inl ⟨i, t, by simp, getD_some ht, ho, hv⟩
            | false =>
              cases t with
              | d d => exact .inr rt
              | _ => cases ho
          | succ n =>
            rcases st n d w (by simpa using h1) (by simpa using h2) with ⟨j, t, a, b, c, e⟩ | z
            · exact .inl ⟨j, t, List.mem_cons_of_mem _ a, b, c, e⟩
            · exact .inr z
        · exact k.elim
      · exact f.elim
    | none =>
      rw [hs] at f
      simp only at f
      show tO W K cs C e σ H _
      unfold tO
      rw [hs]
      refine ⟨F, env, r, f.bind.mono (fun _ _ z => z) fun t env1 g v F1 H1 p => ?_⟩
      obtain ⟨F2, p2, s⟩ := p.kept
      refine tOs.mono (ops_stood es p2.rel (g.bind.mono (fun _ _ z => WxOf.move p2.ext z) fun _ _ z => z)) fun xs H2 ⟨F3, ds, env2, x, r2, rs, st, k⟩ => ?_
      refine ⟨F3, _, env2, p2.ext.trans x, r2, .cons (.fz (RepD.mono x.fr p2.rep)) rs, fun n d w h1 h2 => ?_, k⟩
      have lk : (Es.cons e es).lk = es.lk := by rw [Es.lk, hs]
      rw [lk]
      cases n with
      | zero =>
        have h1 : t.snap = d := by simpa using h1
        have h2 : v = w := by simpa using h2
        subst h1 h2
        exact .inr (RepD.mono x.fr p2.rep)
      | succ n => exact st n d w (by simpa using h1) (by simpa using h2)

theorem no_ref_l {K : PySem.W.Frag} {F H : Hp} {ds : List D} {v : V} (rv : RepV K cs F H (.lst ds) v) (n : ∀ p, v ≠ .ref p := by intro _ z; cases z) : False := by
  cases rv with
  | fz h => cases h; exact n _ rfl
  | ol _ _ => exact n _ rfl
/-! ### walks -/
theorem seq_pi {W : WX} {X : Cx} {C : Cl} {e : E} {tg x : Expr} (h : PE X x (tO W X.K cs C e)) : PI X tg x (wI W X.K cs C (.seq e)) := by
  refine PI.imp (pi_seq h) fun σ H R ⟨F, env, r, f⟩ => ?_
  unfold evI at f
  refine opd_run r f.bind fun d env' v F' H' x r' rv st q => ?_
  have st := fun p e => opd_stood (H := H') (st p e)
  cases d with
  | lst ds =>
    cases v with
    | ref p0 =>
      obtain ⟨p, vs, b, e, hr, rd, no⟩ := stood_l r' rv (st p0 rfl)
      exact ⟨p, e, .inl ⟨⟨vs, hr.at.sq⟩, q F' H' _ _ _ x r' (itl_ok (K := X.K) (b := b) (a := p)) ⟨vs, hr, rd⟩ fun a ha => by rw [ha.2]; exact no ha.1⟩⟩
    | _ => exact (no_ref_l rv).elim
  | tup ds =>
    obtain ⟨p, vs, b, e, hr, rd, no⟩ := stood_t (l := (slotOf e).toList) r' rv
    exact ⟨p, e, .inr ⟨⟨vs, hr.at⟩, q F' H' _ _ _ x r' (itt_ok (K := X.K) (b := b) (a := p)) ⟨vs, hr, rd⟩ fun a ha => by rw [ha.2]; exact no ha.1⟩⟩
  | _ => exact q.elim
theorem rng_pi {W : WX} {N : List Str} {sc : Scope} {X : Cx} {C : Cl} (g : Good P G k cs W N sc X) {es : Es} {tg : Expr} {as : List Expr} {p pos : Pos} (hg : glB sc "range" = true) (hf : ("range" : Str) ∈ G.fr) (hl : (as.length == 1 || as.length == 2) = true) (h : EsOk X W cs C es as) :
    PI X tg (.Call (.Name "range" p) as [] pos) (wI W X.K cs C (.rng es)) := by
  obtain ⟨h1, _, _⟩ := glB_of hg
  have hm := g.free _ hf
  cases h with
  | nil => simp at hl
  | @cons e1 es a as h1' s1 r =>
    cases r with
    | nil =>
      refine PI.imp (pi_range1 (g.gl h1) hm (EsOk.pa (EsOk.cons h1' s1 .nil)) (s1 _ _)) fun σ H R ⟨F, env, r, f⟩ => ?_
      unfold evI at f
      refine tO.mono (ops_run _ r f.bind) fun v1 H2 ⟨F2, ds, env2, x, r2, rs, q⟩ => ?_
      unfold rngF at q
      split at q
      · rename_i ys e
        split at e
        · rename_i j
          split at e
          · rename_i c
            cases e
            cases rs with
            | cons rv rs =>
              cases rs
              cases rv.int
              have it : ItOk X.K cs (Itr 0 j.toNat) ((List.range j.toNat).map fun (n : Nat) => D.int n) (fun _ _ => True) (fun _ => False) := by
                have := itr_ok (K := X.K) (cs := cs) (lo := 0) (n := j.toNat)
                simpa using this
              exact ⟨j, rfl, c.1, c.2, q F2 H2 _ _ _ x r2 it trivial fun _ e => False.elim e⟩
          · cases e
        · rename_i i j
          cases rs with
          | cons _ rs => cases rs
        · cases e
      · exact q.elim
    | @cons e2 es2 b bs h2' s2 r =>
      cases r with
      | nil =>
        refine PI.imp (pi_range2 (g.gl h1) hm (EsOk.pa (EsOk.cons h1' s1 (.cons h2' s2 .nil))) (by rw [s1, s2]; rfl) (s2 _ _)) fun σ H R ⟨F, env, r, f⟩ => ?_
        unfold evI at f
        refine tO.mono (ops_run _ r f.bind) fun v1 H1 z => tO.mono z fun v2 H2 ⟨F2, ds, env2, x, r2, rs, q⟩ => ?_
        unfold rngF at q
        split at q
        · rename_i ys e
          split at e
          · rename_i j
            cases rs with
            | cons _ rs => cases rs
          · rename_i i j
            split at e
            · rename_i c
              cases e
              cases rs with
              | cons rv rs =>
                cases rs with
                | cons rw rs =>
                  cases rs
                  cases rv.int
                  cases rw.int
                  exact ⟨i, j, rfl, c, q F2 H2 _ _ _ x r2 itr_ok trivial fun _ e => False.elim e⟩
            · cases e
          · cases e
        · exact q.elim
      | cons _ _ _ => simp at hl
theorem enum_pi {W : WX} {N : List Str} {sc : Scope} {X : Cx} {C : Cl} (g : Good P G k cs W N sc X) {e : E} {a : Expr} {elts : List Expr} {kk : Nat} {tpos p pos : Pos} (hg : glB sc "enumerate" = true) (hf : ("enumerate" : Str) ∈ G.fr) (h : PE X a (tO W X.K cs C e))
    (s : ∀ (ys : List Expr) (env : PySem.Env), starEach (a :: ys) env = (false, eval a env) :: starEach ys env) : PI X (.Tuple elts kk tpos) (.Call (.Name "enumerate" p) [a] [] pos) (wI W X.K cs C (.enum e)) := by
  obtain ⟨h1, _, _⟩ := glB_of hg
  have hm := g.free _ hf
  refine PI.imp (pi_enum (g.gl h1) hm (EsOk.pa (EsOk.cons h s .nil)) (s _ _)) fun σ H R ⟨F, env, r, f⟩ => ?_
  unfold evI at f
  refine opd_run r f.bind fun d env' v F' H' x r' rv st q => ?_
  have st := fun p e => opd_stood (H := H') (st p e)
  cases d with
  | lst ds =>
    cases v with
    | ref p0 =>
      obtain ⟨p, vs, b, e, hr, rd, no⟩ := stood_l r' rv (st p0 rfl)
      exact ⟨p, vs, by rw [e], hr.at.sq, q F' H' _ _ _ x r' (ite_ok (K := X.K) (b := b) (a := p)) ⟨vs, hr, rd⟩ fun a ha => by rw [ha.2]; exact no ha.1⟩
    | _ => exact (no_ref_l rv).elim
  | _ => exact q.elim
theorem zip_pi {W : WX} {N : List Str} {sc : Scope} {X : Cx} {C : Cl} (g : Good P G k cs W N sc X) {es : Es} {a b : Expr} {elts : List Expr} {kk : Nat} {tpos p pos : Pos} (hg : glB sc "zip" = true) (hf : ("zip" : Str) ∈ G.fr) (h : EsOk X W cs C es [a, b]) :
    PI X (.Tuple elts kk tpos) (.Call (.Name "zip" p) [a, b] [] pos) (wI W X.K cs C (.zip es)) := by
  obtain ⟨h1, _, _⟩ := glB_of hg
  have hm := g.free _ hf
  have hs : starEach [a, b] X.env = (false, eval a X.env) :: starEach [b] X.env := by cases h with | cons _ s _ => exact s _ _
  have hp : (backTo pos (starEach [b] X.env)).any (·.1) = false := by cases h with | cons _ _ r => exact r.plain
  refine PI.imp (RZ.pi_zipA (g.gl h1) hm h.pa hs hp) fun σ H R ⟨F, env, r, f⟩ => ?_
  unfold evI at f
  refine tOs.mono (ops_stood _ r f.bind) fun xs H2 ⟨F2, ds, env2, x, r2, rs, st, q⟩ => ?_
  split at q
  · rename_i ds es'
    cases rs with
    | cons rv rs =>
      cases rs with
      | cons rw rs =>
        cases rs
        obtain ⟨p1, vs, b1, rfl, hr, rd, no1⟩ := stood_l r2 rv (st 0 _ _ rfl rfl)
        obtain ⟨p2, ws, b2, rfl, hr2, rd2, no2⟩ := stood_l r2 rw (st 1 _ _ rfl rfl)
        refine ⟨p1, p2, vs, ws, rfl, .inl ⟨hr.at.sq, hr2.at.sq, q F2 H2 _ _ _ x r2 itz_ok ⟨⟨vs, hr, rd⟩, ws, hr2, rd2⟩ fun a ha => ?_⟩⟩
        rcases ha with ⟨z, rfl⟩ | ⟨z, rfl⟩
        · exact no1 z
        · exact no2 z
  · rename_i ds es'
    cases rs with
    | cons rv rs =>
      cases rs with
      | cons rw rs =>
        cases rs
        obtain ⟨p1, vs, b1, rfl, hr, rd, no1⟩ := stood_t (l := es.lk) r2 rv
        obtain ⟨p2, ws, b2, rfl, hr2, rd2, no2⟩ := stood_t (l := es.lk) r2 rw
        refine ⟨p1, p2, vs, ws, rfl, .inr ⟨hr.at, hr2.at, q F2 H2 _ _ _ x r2 itzt_ok ⟨⟨vs, hr, rd⟩, ws, hr2, rd2⟩ fun a ha => ?_⟩⟩
        rcases ha with ⟨z, rfl⟩ | ⟨z, rfl⟩
        · exact no1 z
        · exact no2 z
  · exact q.elim
/-! ### fields -/
theorem base_ok {e : Expr} {f : Str} {env : PySem.Env} {w : Sem Value} (h : baseB e = true) : attributeBase e f env w = w := by
  unfold attributeBase
  cases e with
  | Call g as kw pos =>
    cases as with
    | cons _ _ => cases g <;> rfl
    | nil =>
      cases kw with
      | cons _ _ => cases g <;> rfl
      | nil => cases h
  | _ => rfl
theorem fld_lookup {K : PySem.W.Frag} {F : Hp} {x : Str} {y : D} : ∀ {fs : List (Str × V)} {ds : List D}, RepDs K cs F ds (fs.map (·.2)) → (((fs.map (·.1)).zip ds).lookup x = some y) → ∃ v, fs.lookup x = some v ∧ RepD K cs F y v
  | [], _, _, h => by simp at h
  | p :: fs, [], r, h => by simp at h
  | (n, v) :: fs, d :: ds, r, h => by
    cases r with
    | cons h1 r =>
      rw [List.map_cons, List.zip_cons_cons, List.lookup_cons] at h
      rw [List.lookup_cons]
      split at h
      · rename_i e
        cases h
        rw [e]
        exact ⟨v, rfl, h1⟩
      · rename_i e
        rw [e]
        exact fld_lookup r h
theorem lookup_memX {α : Type} : ∀ {l : List (Str × α)} {j : Str} {o : α}, l.lookup j = some o → (j, o) ∈ l
  | [], _, _, h => by cases h
  | (a, b) :: l, j, o, h => by
    rw [List.lookup_cons] at h
    split at h
    · rename_i e
      cases h
      have : j = a := by simpa using e
      subst this
      exact List.mem_cons_self
    · exact List.mem_cons_of_mem _ (lookup_memX h)
theorem fld_pe {W : WX} {X : Cx} {C : Cl} {e : E} {e' : Expr} {x : Str} {pos : Pos} (h : PE X e' (tO W X.K cs C e)) (hb : baseB e' = true) : PE X (.Attribute e' x pos) (tE W X.K cs C (.fld e x)) := by
  refine PE.imp (pe_fld h (base_ok hb)) fun σ H Q ⟨F, env, r, f⟩ => ?_
  unfold evE at f
  refine opd_run r f.bind fun d env' v F' H' xx r' rv st q => ?_
  split at q
  · rename_i y hy
    unfold fldF at hy
    split at hy
    · rename_i c ns ds
      cases rv with
      | fz rv =>
        cases rv with
        | @obj _ _ _ a C2 dx fs hF o rd =>
          rw [← o.ns_] at hy
          obtain ⟨w, h1, h2⟩ := fld_lookup rd hy
          have hx : x ∈ ns := by
            rw [← o.ns_]
            exact List.mem_map.mpr ⟨(x, w), lookup_memX h1, rfl⟩
          exact ⟨a, C2, dx, fs, w, rfl, r'.fin.2 _ _ hF, o.cls, o.no x hx, h1, (KeOf.move xx q) w F' H' (Post.stay r' h2)⟩
    · cases hy
  · exact q.elim
/-- no answer -/
theorem no_pe {X : Cx} {e : Expr} {t : TE} (h : ∀ σ H Q, ¬ t σ H Q) : PE X e t := ⟨fun _ _ _ _ _ _ z => (h _ _ _ z).elim⟩
theorem no_pt {X : Cx} {e : Expr} {t : TT} (h : ∀ σ H Q, ¬ t σ H Q) : PT X e t := ⟨fun _ _ _ _ _ _ z => (h _ _ _ z).elim⟩
end
end AM

set_option maxHeartbeats 8000000
/-! == and != of objects with an own __eq__ -/
namespace AM
open PySem PySem.W PySem.Calls PyProof.Rows
section
variable {prog : Program} {w : World} {A : Around} {E : Value → Shared → Prop} {s : Shared} {K : Frag} {x C f : Addr} {ox : Obj} {od : Option Obj} {b tb : Value}
/-- a built-in found in the class, asked for -/
theorem spec_blt {M : Model} {name : Str} {id : String} {args : List Value} {Q : Option Value → Shared → Prop} (X : K.In s.heap) (I : InstAt s.heap x ox C od) (hs : findIn K (.ref C) name = some (some (.builtin id)))
    (hbind : ∀ v, bindSpecial (.builtin id) v = pure (.builtin id, [v])) (h : wpAny M A (call (.builtin id) (.ref x :: args)) (fun v => Q (some v)) E s) : wpAny M A (callSpecialIfBound? (.ref x) name args) Q E s := by
  unfold callSpecialIfBound? bindSpecialIfBound?
  have fin : wpAny M A (call (.builtin id) ([.ref x] ++ args) >>= fun v => pure (some v)) Q E s := wpAny_bind (wpAny_mono h (fun _ _ z => wpAny_pure z) fun _ _ z => z)
  refine wpAny_holding (wpAny_bind (wpAny_bind (wpAny_bind (I.type.here ((looks_findIn X hs).here (wpAny_bind (wpAny_askSetting (wpAny_ite ?_))))))))
  split
  · rw [hbind]
    exact wpAny_bind (wpAny_pure (wpAny_pure (by exact fin)))
  · refine wpAny_tryCatch ?_
    rw [hbind]
    exact wpAny_bind (wpAny_pure (wpAny_pure (by exact fin)))
/-- the left one answers -/
theorem rc_left {op : CmpOp} {Q : Value → Shared → Prop} (hu : A.units < cLine) (X : K.In s.heap) (I : InstAt s.heap x ox C od) (hb : Looks (model prog w) s.heap (typeOf b) tb) (hn : notFirst K C tb = true)
    (h1 : wpAny (model prog w) A (tryCompare (.ref x) (cmpInfo op).2.1 b) (fun r s' => ∃ v, r = some v ∧ Q v s') E s) : wpAny (model prog w) A (richCompare op (.ref x) b) Q E s := by
  unfold richCompare
  rw [oneThing_ref]
  refine wpAny_holding (wpAny_bind (wpAny_cRoomFor hu (wpAny_bind (I.type.here (wpAny_bind (hb.here ?_))))))
  by_cases q : tb = .ref C
  · subst q
    rw [if_neg (by simp)]
    refine wpAny_bind (wpAny_pure ?_)
    simp only [if_false, Bool.false_eq_true, Bool.not_false]
    exact wpAny_bind (wpAny_mono h1 (fun r _ z => by obtain ⟨v, rfl, y⟩ := z; exact wpAny_pure y) fun _ _ z => z)
  · have e : subIn K tb (.ref C) = some false := by
      unfold notFirst at hn
      rw [Bool.or_eq_true, beq_iff_eq, beq_iff_eq] at hn
      exact hn.resolve_left q
    rw [if_pos (by simpa using fun z => q z.symm)]
    refine wpAny_bind ((looks_subIn X e).here ?_)
    simp only [if_false, Bool.false_eq_true, Bool.not_false]
    exact wpAny_bind (wpAny_mono h1 (fun r _ z => by obtain ⟨v, rfl, y⟩ := z; exact wpAny_pure y) fun _ _ z => z)
/-- == by the own __eq__ -/
theorem eq_own {Q : Value → Shared → Prop} (hu : A.units < cLine) (X : K.In s.heap) (I : InstAt s.heap x ox C od) (hb : Looks (model prog w) s.heap (typeOf b) tb) (hn : notFirst K C tb = true)
    (he : findIn K (.ref C) "__eq__" = some (some (.ref f))) (hf : isFn K (.ref f) = true)
    (h : wpAny (model prog w) A (call (.ref f) [.ref x, b]) (fun v s' => ∃ r, v = .bool r ∧ Q (.bool r) s') E s) : wpAny (model prog w) A (richCompare .Eq (.ref x) b) Q E s := by
  refine rc_left hu X I hb hn ?_
  unfold tryCompare
  refine wpAny_bind (ifBound_K X I he hf (wpAny_mono h (fun v _ z => ?_) fun _ _ z => z))
  obtain ⟨r, rfl, q⟩ := z
  exact wpAny_pure ⟨_, rfl, q⟩
/-- != by the own __eq__ -/
theorem ne_own {Q : Value → Shared → Prop} (hu : A.units + 1 < cLine) (X : K.In s.heap) (I : InstAt s.heap x ox C od) (hb : Looks (model prog w) s.heap (typeOf b) tb) (hn : notFirst K C tb = true) (hobj : subIn K (.ref C) (.type "object") = some true)
    (hne : findIn K (.ref C) "__ne__" = some (some (.builtin "object.__ne__"))) (he : findIn K (.ref C) "__eq__" = some (some (.ref f))) (hf : isFn K (.ref f) = true)
    (h : wpAny (model prog w) A.in1 (call (.ref f) [.ref x, b]) (fun v s' => ∃ r, v = .bool r ∧ Q (.bool (!r)) s') E s) : wpAny (model prog w) A (richCompare .NotEq (.ref x) b) Q E s := by
  have inner : wpAny (model prog w) A (tryCompare (.ref x) "__ne__" b) (fun r s' => ∃ v, r = some v ∧ Q v s') E s := by
    unfold tryCompare
    refine wpAny_bind (spec_blt X I hne F.cmp_object.ne.bind ?_)
    refine wpAny_call (codeAny_call_builtin F.cmp_object.ne.plain F.cmpEntry_ne (check_slot F.cmpKind_ne F.cmpSplit_ne (I.type.andThen (looks_subIn X hobj)) (F.cmpArgs_ne _ _) ?_))
    unfold Builtin.«object.__ne__»
    refine wpAny_bind (wpAny_of_eq (a := (Value.ref x, [b])) (by first | rfl | kernel_rfl) ?_)
    refine wpAny_bind (wpAny_cRoomFor (show A.in1.units < cLine from hu) ?_)
    refine wpAny_bind (ifBound_K X I he hf (wpAny_mono h (fun v s' z => ?_) fun _ _ z => z))
    obtain ⟨r, rfl, q⟩ := z
    refine wpAny_bind (wpAny_truthy_bool ?_)
    exact wpAny_pure (wpAny_pure ⟨_, rfl, q⟩)
  exact rc_left (Nat.lt_of_succ_lt hu) X I hb hn inner
/-- == of a built-in thing that declines, by the own __eq__ of the right one -/
theorem eq_back {T : String} {u : Value} {Q : Value → Shared → Prop} (hu : A.units < cLine) (X : K.In s.heap) (I : InstAt s.heap x ox C od) (h1 : oneThing? .Eq u (.ref x) = none) (hb : Looks (model prog w) s.heap (typeOf u) (.type T)) (hn : subIn K (.ref C) (.type T) = some false)
    (hno : ∀ (R : Option Value → Shared → Prop), R none s → wpAny (model prog w) A (tryCompare u "__eq__" (.ref x)) R E s)
    (he : findIn K (.ref C) "__eq__" = some (some (.ref f))) (hf : isFn K (.ref f) = true)
    (h : wpAny (model prog w) A (call (.ref f) [.ref x, u]) (fun v s' => ∃ r, v = .bool r ∧ Q (.bool r) s') E s) : wpAny (model prog w) A (richCompare .Eq u (.ref x)) Q E s := by
  unfold richCompare
  rw [h1]
  refine wpAny_holding (wpAny_bind (wpAny_cRoomFor hu (wpAny_bind (hb.here (wpAny_bind (I.type.here ?_))))))
  rw [if_pos (by simp)]
  refine wpAny_bind ((looks_subIn X hn).here ?_)
  simp only [if_false, Bool.false_eq_true, Bool.not_false, if_true]
  refine wpAny_bind (hno _ ?_)
  refine wpAny_bind ?_
  unfold tryCompare
  refine wpAny_bind (ifBound_K X I he hf (wpAny_mono h (fun v _ z => ?_) fun _ _ z => z))
  obtain ⟨r, rfl, q⟩ := z
  exact wpAny_pure (wpAny_pure q)
/-- a tuple declines an instance -/
theorem tup_no {l : Addr} {items : Array Value} (hl : s.heap.IsTuple l items) (X : K.In s.heap) (I : InstAt s.heap x ox C od) (hn : subIn K (.ref C) (.type "tuple") = some false) (R : Option Value → Shared → Prop) (q : R none s) :
    wpAny (model prog w) A (tryCompare (.ref l) "__eq__" (.ref x)) R E s := by
  obtain ⟨o, ho, hc, _⟩ := hl
  refine wpAny_tryCompare_declines ⟨o, ho, hc⟩ F.slot_tuple_eq (wpAny_call (codeAny_call_builtin F.slot_tuple_eq.plain F.entry_tuple_eq (F.slot_tuple_eq.check _ _ _ _ _ _ _ _ ⟨o, ho, hc⟩ (F.args_tuple_eq_2 _ _) ?_)))
  have L : Looks (model prog w) s.heap (isInstance (.ref x) (.type "tuple")) false := I.type.andThen (looks_subIn X hn)
  unfold Builtin.«tuple.__eq__»
  refine wpAny_bind (wpAny_of_eq (a := (Value.ref l, [Value.ref x])) (by first | rfl | kernel_rfl) ?_)
  refine wpAny_bind (L.here ?_)
  rw [if_pos (show (!false) = true from rfl)]
  exact wpAny_pure ⟨rfl, q⟩
end

open PySem.Spec L2
/-! ### rules -/
section
variable {X : Cx} {j : Nat} {C fA : Addr} {fd : FuncData} {ps : List Str} {sp : Sp} {pins : List (Addr × Obj)} {σ : L2.St} {H : Hp} {s : Shared}
theorem nobody {P : Program} {w : World} {l : List PySem.Env} {H : Hp} {s : Shared} {e : Value} {s' : Shared} (h : L2.CX P w l H s (fun _ _ _ => False) e s') : False := by
  obtain ⟨_, _, _, _, _, _, _, _, _, _, _, _, z⟩ := h
  exact z
/-- a def that raises nothing, called within a built-in -/
theorem run_in {Q : VK} {us : List Value} {vs : List V} {E' : Value → Shared → Prop} (F : FnOk X.prog X.w X.K X.mg X.base (L2.CX X.prog X.w) j fA fd ps sp) (hr : Room j X.A.in1) (hb : Binds X.K fd ps []) (I : Inv X pins σ H s) (r : Vals vs us) (h : sp vs H Q fun _ _ _ => False) :
    wpAny (model X.prog X.w) X.A.in1 (call (.ref fA) us) (EP X pins σ Q) E' s := by
  have n : (us ++ []).length = ps.length := by rw [List.append_nil, ← F.len _ _ _ _ h, r.length]
  have b := hb s us I.kIn n
  rw [List.append_nil] at b
  refine wpAny_call (codeAny_mono (F.run X.A.in1 X.stack s H ⟨us, []⟩ us vs Q _ hr I.env0.in1 b r h) ?_)
  rintro (e | fl) s' z
  · exact (nobody z).elim
  · cases fl with
    | ret u => exact I.after z
    | _ => exact False.elim z
/-- .. and not within -/
theorem run_at {Q : VK} {us : List Value} {vs : List V} {E' : Value → Shared → Prop} (F : FnOk X.prog X.w X.K X.mg X.base (L2.CX X.prog X.w) j fA fd ps sp) (hr : Room j X.A) (hb : Binds X.K fd ps []) (I : Inv X pins σ H s) (r : Vals vs us) (h : sp vs H Q fun _ _ _ => False) :
    wpAny (model X.prog X.w) X.A (call (.ref fA) us) (EP X pins σ Q) E' s := by
  have n : (us ++ []).length = ps.length := by rw [List.append_nil, ← F.len _ _ _ _ h, r.length]
  have b := hb s us I.kIn n
  rw [List.append_nil] at b
  refine wpAny_call (codeAny_mono (F.run X.A X.stack s H ⟨us, []⟩ us vs Q _ hr I.env0 b r h) ?_)
  rintro (e | fl) s' z
  · exact (nobody z).elim
  · cases fl with
    | ret u => exact I.after z
    | _ => exact False.elim z
def rOwnE (X : Cx) (C : Addr) (sp : Sp) (ne : Bool) : R2 := fun x y H Q => ∃ a dx fs t, x = .ref a ∧ H a = some (.ins C dx fs) ∧ TyX X.K H y t ∧ PySem.W.notFirst X.K C t = true ∧ sp [x, y] H (fun v H' => ∃ r, v = .bl r ∧ Q (.bl (r != ne)) H') fun _ _ _ => False
theorem op_ownE (ot : OTy X.K C) (he : PySem.W.findIn X.K (.ref C) "__eq__" = some (some (.ref fA))) (hf : PySem.W.isFn X.K (.ref fA) = true) (F : FnOk X.prog X.w X.K X.mg X.base (L2.CX X.prog X.w) j fA fd ps sp) (hr : Room (j + 1) X.A) (hb : Binds X.K fd ps []) :
    ∀ ne : Bool, OpR X (compareOp (if ne = true then .NotEq else .Eq)) (rOwnE X C sp ne) := by
  intro ne pins s σ H x y v u Q I rx ry ⟨a, dx, fs, t, e, ha, ty, hn, q⟩
  subst e
  cases (show v = Value.ref a from rx)
  obtain ⟨mA, O, _⟩ := ins_get I.hok ha
  obtain ⟨od, J, _⟩ := O.look
  obtain ⟨Pz, Z, pz, _⟩ := kit_of I ry ty
  have L := Z.ty (model X.prog X.w) s.heap I.kIn pz
  have rr : Vals [V.ref a, y] [Value.ref a, u] := .cons rfl (.cons ry .nil)
  have un : X.A.units + 1 < cLine := by have := hr.un; omega
  cases ne with
  | true =>
    show wpAny _ _ (richCompare .NotEq (.ref a) u) _ _ _
    refine ne_own un I.kIn J L hn ot.ob ot.ne he hf (wpAny_mono (run_in F hr.in1 hb I rr q) (fun w s' z => ?_) fun _ _ z => z)
    obtain ⟨v', H', I', rv, r, rfl, q'⟩ := z
    cases (show w = Value.bool r from rv)
    refine ⟨r, rfl, .bl (!r), H', I', rfl, ?_⟩
    cases r <;> exact q'
  | false =>
    show wpAny _ _ (richCompare .Eq (.ref a) u) _ _ _
    refine eq_own (Nat.lt_of_succ_lt un) I.kIn J L hn he hf (wpAny_mono (run_at F (hr.mono (Nat.le_succ _)) hb I rr q) (fun w s' z => ?_) fun _ _ z => z)
    obtain ⟨v', H', I', rv, r, rfl, q'⟩ := z
    cases (show w = Value.bool r from rv)
    refine ⟨r, rfl, .bl r, H', I', rfl, ?_⟩
    cases r <;> exact q'
def rBackE (X : Cx) (C : Addr) (sp : Sp) : R2 := fun x y H Q => ∃ p vs a dx fs, x = .ref p ∧ SqT X.K H p vs ∧ y = .ref a ∧ H a = some (.ins C dx fs) ∧ sp [y, x] H (fun v H' => ∃ r, v = .bl r ∧ Q (.bl r) H') fun _ _ _ => False
theorem op_backE (ot : OTy X.K C) (he : PySem.W.findIn X.K (.ref C) "__eq__" = some (some (.ref fA))) (hf : PySem.W.isFn X.K (.ref fA) = true) (F : FnOk X.prog X.w X.K X.mg X.base (L2.CX X.prog X.w) j fA fd ps sp) (hr : Room (j + 1) X.A) (hb : Binds X.K fd ps []) :
    OpR X (compareOp .Eq) (rBackE X C sp) := by
  intro pins s σ H x y v u Q I rx ry ⟨p, vs, a, dx, fs, e1, hs, e2, ha, q⟩
  subst e1 e2
  cases (show v = Value.ref p from rx)
  cases (show u = Value.ref a from ry)
  obtain ⟨mA, O, _⟩ := ins_get I.hok ha
  obtain ⟨od, J, _⟩ := O.look
  obtain ⟨its, _, tl, _⟩ := I.tuple hs
  have un : X.A.units + 1 < cLine := by have := hr.un; omega
  obtain ⟨o, ho, hc, _⟩ := id tl
  have r2 : Vals [V.ref a, V.ref p] [Value.ref a, Value.ref p] := .cons rfl (.cons rfl .nil)
  have L : PySem.W.Looks (model X.prog X.w) s.heap (typeOf (.ref p)) (.type "tuple") := fun A Q' E' s' k q' => wpAny_typeOf_ref (k _ _ ho) (by rw [hc]; exact q')
  show wpAny _ _ (richCompare .Eq (.ref p) (.ref a)) _ _ _
  refine eq_back (Nat.lt_of_succ_lt un) I.kIn J rfl L ot.tu (fun R z => tup_no tl I.kIn J ot.tu R z) he hf (wpAny_mono (run_at F (hr.mono (Nat.le_succ _)) hb I r2 q) (fun w s' z => ?_) fun _ _ z => z)
  obtain ⟨v', H', I', rv, r, rfl, q'⟩ := z
  cases (show w = Value.bool r from rv)
  exact ⟨r, rfl, .bl r, H', I', rfl, q'⟩
end
end AM

set_option maxHeartbeats 8000000
/-! == of objects, properties: as the evaluator answers -/
namespace AM
open PySem PySem.Spec PyProof.Rows L2
section
variable {P : Tx} {G : Ck} {k : Nat} {cs : Cst} {W : WX} {N : List Str} {sc : Scope} {X : Cx} {F H : Hp} {env : AM.Env} {σ : L2.St} {Q : VK} {n : Nat} {ps : List Str}
theorem io_nil {ts : List AM.T} {t : AM.T} (e : P.call k n ts = .ok t []) : P.io n = [] := by
  obtain ⟨fn, _, _, l, _⟩ := call_ok e
  exact List.length_eq_zero_iff.mp l.symm
theorem args_d (σ : L2.St) (env : AM.Env) (ds : List D) (vs : List V) (h : ds.length = vs.length) : Args env σ (ds.map fun _ => none) (ds.map AM.T.d) vs := by
  refine ⟨by rw [List.length_map, h], by rw [List.length_map, List.length_map], fun j i e => ?_, fun j t e _ => ?_⟩
  · rw [List.getD_eq_getElem?_getD, List.getElem?_map] at e
    cases q : ds[j]? with
    | none => rw [q] at e; cases e
    | some d => rw [q] at e; cases e
  · rw [List.getElem?_map] at e
    cases q : ds[j]? with
    | none => rw [q] at e; cases e
    | some d => rw [q] at e; cases e; rfl
theorem ArgRep.ds {K : PySem.W.Frag} : ∀ {ds : List D} {vs : List V}, RepDs K cs F ds vs → ArgRep K cs F H (ds.map AM.T.d) vs
  | _, _, .nil => .nil
  | _, _, .cons h r => .cons h (ArgRep.ds r)
/-- a def called with values that stay, which changes nothing -/
theorem ask_sp {ds : List D} {vs : List V} {t : AM.T} {R : VK} (rel : Rel X.K cs F H env σ) (rd : RepDs X.K cs F ds vs) (hnp : ∀ fn, P.fns[n]? = some fn → fn.np = ps.length) (e : P.call k n (ds.map AM.T.d) = .ok t [])
    (q : ∀ v F' H', Post X.K cs F H env σ F' H' env t v → R v H') : spF P k n X.K cs ps.length vs H R fun _ _ _ => False := by
  obtain ⟨fn, hfn, l1, _, _⟩ := call_ok e
  have io := io_nil e
  have A := args_d σ env ds vs rd.length
  have ok : ioOk (P.io n) (ds.map fun _ => none) = true := by
    rw [io]
    unfold ioOk
    have z : ((ds.map fun _ => (none : Option Nat)).zipIdx.all fun p => p.1.isNone || ([] : List Nat).contains p.2) = true := List.all_eq_true.mpr fun p hp => by
      have := List.mem_zipIdx_iff_getElem?.mp hp
      rw [List.getElem?_map] at this
      cases z : ds[p.2]? with
      | none => rw [z] at this; cases this
      | some d =>
        rw [z] at this
        have e : p.1 = none := (Option.some.inj this).symm
        rw [e]; rfl
    rw [z]; rfl
  refine ⟨F, ds.map AM.T.d, l1.trans (hnp fn hfn), rel_args rel A (ArgRep.ds rd) ok, ?_⟩
  rw [e]
  intro v F' H' post
  have l2 : (ds.map AM.T.d).length = ps.length := l1.trans (hnp fn hfn)
  rw [← l2] at post
  have := call_post rel A ok (by rw [io]; rfl) post
  rw [io] at this
  exact q v F' H' this
theorem RepD.isObj {K : PySem.W.Frag} {c : Nat} {d : D} {v : V} (h : AM.isObj c d = true) (r : RepD K cs F d v) : ∃ ns ds a C dx fs, d = .obj c ns ds ∧ v = .ref a ∧ F a = some (.ins C dx fs) ∧ OFact K cs c ns C fs := by
  cases r with
  | @obj c2 ns ds a C dx fs hF o rd =>
    have e : c2 = c := by simpa [AM.isObj] using h
    subst e
    exact ⟨ns, ds, a, C, dx, fs, rfl, rfl, hF, o⟩
  | _ => cases h
theorem RepD.isTup {K : PySem.W.Frag} {d : D} {v : V} (h : isTup7 d = true) (r : RepD K cs F d v) : ∃ p vs, v = .ref p ∧ SqT K F p vs := by
  cases r with
  | tup h2 _ => exact ⟨_, _, rfl, h2⟩
  | _ => cases h
theorem cs_eq {c : Nat} {C C2 : Addr} (h1 : cs c = some C) (h2 : cs c = some C2) : C = C2 := Option.some.inj (h1.symm.trans h2)
/-- == and != as they are reckoned -/
theorem oeq_run (g : Good P G k cs W N sc X) {c : Nat} {ne : Bool} {a b : E} (hm : (c, n) ∈ G.eqs) (r : Rel X.K cs F H env σ) (f : Fit (evE (clOf P k) (.oeq c n ne a b) env) (WxOf W X.K cs F H env σ) (KeOf X.K cs F H env σ Q)) :
    tE W X.K cs (clOf P k) a σ H fun v1 H1 => tE W X.K cs (clOf P k) b σ H1 fun v2 H2 => uOp X (compareOp (if ne = true then .NotEq else .Eq)) v1 v2 H2 Q := by
  unfold evE at f
  refine ⟨F, env, r, f.bind.mono (fun _ _ z => z) fun t env1 g1 v F1 H1 p => ?_⟩
  obtain ⟨F2, p2, _⟩ := p.kept
  refine ⟨F2, env1, p2.rel, g1.bind.mono (fun _ _ z => WxOf.move p2.ext z) fun u env2 g2 w F3 H3 p3 => ?_⟩
  obtain ⟨F4, p4, _⟩ := p3.kept
  have hx : RepD X.K cs F4 t.snap v := RepD.mono p4.ext.fr p2.rep
  have hy : RepD X.K cs F4 u.snap w := p4.rep
  have fi := p4.rel.fin
  have mv : ∀ {d : AM.T} {e' : AM.Env}, KeOf X.K cs F H env σ Q d e' → KeOf X.K cs F4 H3 env2 σ Q d e' := fun z => KeOf.move (p2.ext.trans p4.ext) z
  obtain ⟨C, fA, fd, ps, hC, he, hf, hb, hnp, hF⟩ := g.eqs c n hm
  generalize t.snap = x at hx g2
  generalize u.snap = y at hy g2
  have fin : ∀ {rr : Bool}, KeOf X.K cs F4 H3 env2 σ Q (.d (.bl rr)) env2 → ∀ v' F' H', Post X.K cs F4 H3 env2 σ F' H' env2 (.d (.bl rr)) v' → v' = .bl rr ∧ Q (.bl rr) H' := fun z v' F' H' post => by
    cases (show RepD X.K cs F' (.bl _) v' from post.rep)
    exact ⟨rfl, z _ F' H' post⟩
  have flip : ∀ {rr m : Bool}, KeOf X.K cs F4 H3 env2 σ Q (.d (.bl (rr != m))) env2 → ∀ v' F' H', Post X.K cs F4 H3 env2 σ F' H' env2 (.d (.bl rr)) v' → ∃ q, v' = .bl q ∧ Q (.bl (q != m)) H' := fun {rr m} z v' F' H' post => by
    cases (show RepD X.K cs F' (.bl _) v' from post.rep)
    exact ⟨rr, rfl, z _ F' H' ⟨post.ext, post.rel, .bl _, fun o => by cases o⟩⟩
  unfold oeqK at g2
  split at g2
  · rename_i hox
    obtain ⟨ns, ds, a1, C1, dx, fs, rfl, rfl, hFa, o⟩ := hx.isObj hox
    have := cs_eq o.at_ hC
    subst this
    split at g2
    · rename_i hcy
      unfold askEq at g2
      split at g2
      · rename_i rr e
        cases k with
        | zero => cases e
        | succ j =>
          have ty : ∃ tt, TyX X.K H3 w tt ∧ PySem.W.notFirst X.K C1 tt = true := by
            rcases hcy with hcy | hcy
            · obtain ⟨_, _, a2, C2, dx2, fs2, rfl, rfl, hFb, o2⟩ := hy.isObj hcy
              have := cs_eq o2.at_ o.at_
              subst this
              refine ⟨_, .base (.ins (fi.2 _ _ hFb) o2.cls o2.ty.ha o2.ty.hn o2.ty.ht o2.ty.hm), ?_⟩
              unfold PySem.W.notFirst
              rw [beq_self_eq_true, Bool.true_or]
            · obtain ⟨tg, ht⟩ := Option.isSome_iff_exists.mp hcy
              refine ⟨_, (RepV.fz hy).tyX fi ht, ?_⟩
              unfold PySem.W.notFirst
              rw [o.ty.sub tg (tag_mem ht)]
              rw [beq_self_eq_true, Bool.or_true]
          obtain ⟨tt, h1, h2⟩ := ty
          refine ⟨_, op_ownE o.ty he hf (hF j rfl) g.room hb ne, a1, dx, fs, tt, rfl, fi.2 _ _ hFa, h1, h2, ?_⟩
          exact ask_sp (ds := [.obj c ns ds, y]) p4.rel (.cons hx (.cons hy .nil)) hnp e (flip (mv g2))
      · exact g2.elim
    · exact g2.elim
  · split at g2
    · rename_i hoy
      split at g2
      · rename_i hc
        obtain ⟨hc1, hc2⟩ := hc
        subst hc2
        obtain ⟨ns, ds, a1, C1, dx, fs, rfl, rfl, hFa, o⟩ := hy.isObj hoy
        have := cs_eq o.at_ hC
        subst this
        obtain ⟨p1, vs, rfl, hs⟩ := hx.isTup hc1
        unfold askEq at g2
        split at g2
        · rename_i rr e
          cases k with
          | zero => cases e
          | succ j =>
            refine ⟨_, op_backE o.ty he hf (hF j rfl) g.room hb, p1, vs, a1, dx, fs, rfl, fi.sqt hs, rfl, fi.2 _ _ hFa, ?_⟩
            refine ask_sp (ds := [.obj c ns ds, x]) p4.rel (.cons hy (.cons hx .nil)) hnp e fun v' F' H' post => ?_
            obtain ⟨q, e1, e2⟩ := flip (mv g2) v' F' H' post
            refine ⟨q, e1, ?_⟩
            cases q <;> exact e2
        · exact g2.elim
      · exact g2.elim
    · split at g2
      · split at g2
        · rename_i bb e
          have z := mv g2
          cases ne with
          | true =>
            have e2 : cmpF .NotEq x y = some (!bb) := by
              show (eqF x y).map (!·) = _
              rw [e]; rfl
            refine cmp_ok g.room e2 p4.rel (.fz hx) (.fz hy) ?_
            have q := z (.bl (bb != true)) F4 H3 ⟨Ext.refl _ _ _, p4.rel, .bl _, fun o => by cases o⟩
            cases bb <;> exact q
          | false =>
            refine cmp_ok (o := .Eq) g.room e p4.rel (.fz hx) (.fz hy) ?_
            have q := z (.bl (bb != false)) F4 H3 ⟨Ext.refl _ _ _, p4.rel, .bl _, fun o => by cases o⟩
            cases bb <;> exact q
        · exact g2.elim
      · exact g2.elim
theorem op_of {o : CmpOp} {ne : Bool} (h : (decide (o = .Eq) && !ne || decide (o = .NotEq) && ne) = true) : o = if ne = true then .NotEq else .Eq := by
  cases ne <;> simp at h <;> simpa using h
theorem oeq_pe (g : Good P G k cs W N sc X) {c : Nat} {ne : Bool} {a b : E} {x y : Expr} {pos : Pos} (hm : (c, n) ∈ G.eqs) (hs : isSet y = false) (ha : PE X x (tE W X.K cs (clOf P k) a)) (hb : PE X y (tE W X.K cs (clOf P k) b)) :
    PE X (.Compare x [if ne = true then .NotEq else .Eq] [y] pos) (tE W X.K cs (clOf P k) (.oeq c n ne a b)) :=
  PE.imp (pe_cmpR (uOp_ok (X := X) (f := compareOp (if ne = true then .NotEq else .Eq))) ha hb (nomarkS hs)) fun _ _ _ ⟨_, _, r, f⟩ => oeq_run g hm r f
theorem oeq_pt (g : Good P G k cs W N sc X) {c : Nat} {ne : Bool} {a b : E} {x y : Expr} {pos : Pos} (hm : (c, n) ∈ G.eqs) (hs : isSet y = false) (ha : PE X x (tE W X.K cs (clOf P k) a)) (hb : PE X y (tE W X.K cs (clOf P k) b)) :
    PT X (.Compare x [if ne = true then .NotEq else .Eq] [y] pos) (tT W X.K cs (clOf P k) (.oeq c n ne a b)) := by
  refine PT.imp (pt_cmpR (uOp_ok (X := X) (f := compareOp (if ne = true then .NotEq else .Eq))) ha hb (nomarkS hs)) fun σ H Q ⟨F, env, r, f⟩ => oeq_run g hm r ?_
  refine f.bind.mono (fun _ _ z => z) fun t env' z v F' H' p => ?_
  cases t with
  | d d =>
    cases d with
    | bl b =>
      cases (show RepD X.K cs F' (.bl b) v from p.rep)
      exact ⟨b, rfl, z F' H' p.ext p.rel⟩
    | _ => exact z.elim
  | _ => exact z.elim
/-- a property -/
theorem prop_pe (g : Good P G k cs W N sc X) {c : Nat} {e : E} {e' : Expr} {x : Str} {pos : Pos} (hm : (c, n, x) ∈ G.pr) (h : PE X e' (tO W X.K cs (clOf P k) e)) (hb : baseB e' = true) : PE X (.Attribute e' x pos) (tE W X.K cs (clOf P k) (.prop c n x e)) := by
  obtain ⟨C, p, fA, fd, ps, hC, hp, hbi, hnp, hF⟩ := g.prs c n x hm
  cases k with
  | zero =>
    refine PE.imp (pe_fld h (base_ok hb)) fun σ H Q ⟨F, env, r, f⟩ => ?_
    unfold evE at f
    refine opd_run r f.bind fun d env' v F' H' xx r' rv st q => ?_
    unfold propK at q
    split at q
    · split at q
      · rename_i e2; cases e2
      · exact q.elim
    · exact q.elim
  | succ j =>
    by_cases hc : L2.Cls X.K C
    · have nb : Passes (L2.CX X.prog X.w) X.nox fun _ _ _ => False := fun _ _ _ _ _ _ _ z => (nobody z).elim
      refine PE.imp (pe_prop h hc hp (hF j rfl) g.room hbi .nil nb (base_ok hb)) fun σ H Q ⟨F, env, r, f⟩ => ?_
      unfold evE at f
      refine opd_run r f.bind fun d env' v F' H' xx r' rv st q => ?_
      unfold propK at q
      split at q
      · rename_i ho
        split at q
        · rename_i y e2
          cases rv with
          | fz rv =>
            obtain ⟨ns, ds, a1, C1, dx, fs, rfl, rfl, hFa, o⟩ := rv.isObj ho
            have := cs_eq o.at_ hC
            subst this
            refine ⟨a1, dx, fs, rfl, r'.fin.2 _ _ hFa, ?_⟩
            refine ask_sp (ds := [.obj c ns ds]) r' (.cons rv .nil) hnp e2 fun v' F2 H2 post => ?_
            exact (KeOf.move xx q) v' F2 H2 post
          | ol _ _ => cases ho
        · exact q.elim
      · exact q.elim
    · refine PE.imp (pe_fld h (base_ok hb)) fun σ H Q ⟨F, env, r, f⟩ => ?_
      unfold evE at f
      refine opd_run r f.bind fun d env' v F' H' xx r' rv st q => ?_
      unfold propK at q
      split at q
      · rename_i ho
        cases rv with
        | fz rv =>
          obtain ⟨ns, ds, a1, C1, dx, fs, rfl, rfl, hFa, o⟩ := rv.isObj ho
          have := cs_eq o.at_ hC
          subst this
          exact absurd o.cls hc
        | ol _ _ => cases ho
      · exact q.elim
end
end AM

set_option maxHeartbeats 8000000
/-! expressions: the whole -/
namespace AM
open PySem PySem.Spec PyProof.Rows L2
section
variable {P : Tx} {G : Ck} {k : Nat} {cs : Cst}

theorem lc_pe {W : WX} {N : List Str} {sc : Scope} {X : Cx} (g : Good P G k cs W N sc X) {own : List (Str × Nat)} {p : Pt} {it : AM.It} {ifs : Oe} {e : E} {elt tg iter : Expr} {ifs' : List Expr} {scope : Scope} {pos : Pos}
    (hb : blkC N sc scope own = true) (hp : chkPt N scope p tg = true) (hs : ∀ i ∈ p.slots, i ∈ own.map (·.2)) (hi : PI X tg iter (wI W X.K cs (clOf P k) it)) (hf : ∀ env x, foldedSetIterable iter env x = pure x)
    (ho : ∀ X', Good P G k cs noW N (relS scope sc) X' → PTs X' ifs' (tOe noW X'.K cs (clOf P k) ifs)) (he : ∀ X', Good P G k cs noW N (relS scope sc) X' → PE X' elt (tE noW X'.K cs (clOf P k) e)) :
    PE X (.ListComp elt [⟨tg, iter, ifs', 0⟩] scope pos) (tE W X.K cs (clOf P k) (.lc own p it ifs e)) := by
  refine PE.imp (pe_lc (wi := wI W X.K cs (clOf P k) it) (g := gPt X.K p) (tt := tOe noW X.K cs (clOf P k) ifs) (te := tE noW X.K cs (clOf P k) e) (own := own) g.calm (by rw [g.hN]; exact g.nd) hi (by rw [g.hN, g.hsc]; exact blkOk_by hb)
    (fun s H C cl fp => ?_) (fun s H C cl fp => ho _ (g.blk scope s H C cl fp)) (fun s H C cl fp => he _ (g.blk scope s H C cl fp)) (hf X.env)) fun σ H Q ⟨F, env, r, f⟩ => lc_read hs r f
  exact pt_pg (X := X.blk s H scope (compEnvC scope cl C X.env) fp) g.hN g.nd g.calm (locB_blk g scope s H C cl fp) p tg hp

theorem tru_no {W : WX} {X : Cx} {C : Cl} {i : Nat} {e : Expr} : PE X e (tE W X.K cs C (.vw i)) := no_pe fun σ H Q ⟨F, env, r, f⟩ => by
  unfold evE at f
  exact f
theorem tru_noT {W : WX} {X : Cx} {C : Cl} {i : Nat} {e : Expr} : PT X e (tT W X.K cs C (.vw i)) := no_pt fun σ H Q ⟨F, env, r, f⟩ => by
  unfold evE at f
  exact f
theorem pts_no {W : WX} {X : Cx} {C : Cl} : PTs X [] (tOe W X.K cs C .no) := ⟨fun pins s σ H Q I ⟨F, env, r, f⟩ => by
  unfold evO at f
  exact pts_nil.run pins s σ H Q I (f F H (Ext.refl _ _ _) r)⟩
theorem pts_yes {W : WX} {X : Cx} {C : Cl} {c : E} {x : Expr} (h : PT X x (tT W X.K cs C c)) : PTs X [x] (tOe W X.K cs C (.yes c)) := ⟨fun pins s σ H Q I ⟨F, env, r, f⟩ => by
  unfold evO at f
  exact (pts_one h).run pins s σ H Q I ⟨F, env, r, f⟩⟩
mutual
theorem snd_E : ∀ c : E, SndE P G k cs c
  | .cst d => fun t N sc X W e g h => by
    cases e <;> first | (simp [chkE] at h; done) | skip
    simp only [chkE] at h
    exact val_both t (cst_pe h) rfl fun _ _ _ => Expr.noConfusion
  | .var i => fun t N sc X W e g h => by
    cases e <;> first | (simp [chkE] at h; done) | skip
    simp only [chkE] at h
    exact val_both t (var_pe g h) rfl fun _ _ _ => Expr.noConfusion
  | .vw i => fun t N sc X W e g h => by
    cases e <;> first | (simp [chkE] at h; done) | skip
    exact val_both t tru_no rfl fun _ _ _ => Expr.noConfusion
  | .glob x => fun t N sc X W e g h => by
    cases e <;> first | (simp [chkE] at h; done) | skip
    simp only [chkE, Bool.and_eq_true, decide_eq_true_eq] at h
    obtain ⟨⟨rfl, h2⟩, h3⟩ := h
    exact val_both t (glob_pe g h2 h3) rfl fun _ _ _ => Expr.noConfusion
  | .prim p es => fun t N sc X W e g h => by
    have ih : SndEs P G k cs es := snd_Es es
    unfold chkE at h
    split at h
    all_goals try (cases ‹E.prim p es = _›)
    all_goals first | (cases h; done) | skip
    · simp only [Bool.and_eq_true] at h
      obtain ⟨h1, h2⟩ := h
      split at h1 <;> first | (cases h1; done) | skip
      have := of_decide_eq_true h1
      subst this
      exact val_both t (bin_pe g (ih N sc X W _ g h2)) rfl fun _ _ _ => Expr.noConfusion
    · simp only [Bool.and_eq_true] at h
      obtain ⟨h1, h2⟩ := h
      split at h1 <;> first | (cases h1; done) | skip
      exact val_both t (neg_pe g (ih N sc X W _ g h2)) rfl fun _ _ _ => Expr.noConfusion
    · simp only [Bool.and_eq_true, Bool.not_eq_true'] at h
      obtain ⟨⟨h1, hs⟩, h2⟩ := h
      split at h1 <;> first | (cases h1; done) | skip
      have := of_decide_eq_true h1
      subst this
      exact ⟨fun _ => cmp_pe g hs (ih N sc X W _ g h2), fun _ => cmp_pt g hs (ih N sc X W _ g h2), fun _ _ _ _ e => Expr.noConfusion e⟩
    · simp only [Bool.and_eq_true, Bool.not_eq_true'] at h
      obtain ⟨⟨h1, hs⟩, h2⟩ := h
      split at h1 <;> first | (cases h1; done) | skip
      exact val_both t (ix_pe g hs (ih N sc X W _ g h2)) rfl fun _ _ _ => Expr.noConfusion
    · simp only [Bool.and_eq_true, decide_eq_true_eq] at h
      obtain ⟨⟨⟨h1, hg⟩, hf⟩, h2⟩ := h
      split at h1 <;> first | (cases h1; done) | skip
      exact val_both t (bi_pe g (of_decide_eq_true h1) hg hf (ih N sc X W _ g h2)) rfl fun _ _ _ => Expr.noConfusion
    · simp only [Bool.and_eq_true] at h
      obtain ⟨⟨h1, hs⟩, h2⟩ := h
      split at h1 <;> first | (cases h1; done) | skip
      exact val_both t (tup_pe hs (ih N sc X W _ g h2)) rfl fun _ _ _ => Expr.noConfusion
    · simp only [Bool.and_eq_true] at h
      obtain ⟨⟨h1, hs⟩, h2⟩ := h
      split at h1 <;> first | (cases h1; done) | skip
      exact val_both t (lst_pe hs (ih N sc X W _ g h2)) rfl fun _ _ _ => Expr.noConfusion
    · simp only [Bool.and_eq_true] at h
      obtain ⟨h1, h2⟩ := h
      split at h1 <;> first | (cases h1; done) | skip
      split at h2 <;> first | (cases h2; done) | skip
      exact val_both t dic_pe rfl fun _ _ _ => Expr.noConfusion
  | .sl x lo hi => fun t N sc X W e0 g h => by
    have ix := snd_E x
    have il' : SndO P G k cs lo := snd_O lo
    have il := il'.2
    have ihh' : SndO P G k cs hi := snd_O hi
    have ihh := ihh'.2
    unfold chkE at h
    split at h
    all_goals try (cases ‹(E.sl x lo hi : E) = _›)
    all_goals first | (cases h; done) | skip
    simp only [Bool.and_eq_true] at h
    obtain ⟨⟨h1, h2⟩, h3⟩ := h
    exact val_both t (sl_pe g (opd_pe g h1 ix) (il N sc X W _ g h2) (ihh N sc X W _ g h3)) rfl fun _ _ _ => Expr.noConfusion
  | .and a b => fun t N sc X W e0 g h => by
    have ia := snd_E a
    have ib := snd_E b
    unfold chkE at h
    split at h
    all_goals try (cases ‹(E.and a b : E) = _›)
    all_goals first | (cases h; done) | skip
    simp only [Bool.and_eq_true] at h
    obtain ⟨h1, h2⟩ := h
    have pw : t = true → PW X _ (tT W X.K cs (clOf P k) (.and a b)) := fun z => and_pw ((ia t N sc X W _ g h1).2.1 z) ((ib t N sc X W _ g h2).2.2 z _ _ _ rfl)
    exact ⟨fun z => and_pe ((ia t N sc X W _ g h1).1 z) ((ib t N sc X W _ g h2).1 z), fun z => (pw z).pt, fun z _ _ _ e => by cases e; exact pw z⟩
  | .or a b => fun t N sc X W e0 g h => by
    have ia := snd_E a
    have ib := snd_E b
    unfold chkE at h
    split at h
    all_goals try (cases ‹(E.or a b : E) = _›)
    all_goals first | (cases h; done) | skip
    simp only [Bool.and_eq_true] at h
    obtain ⟨h1, h2⟩ := h
    have pw : t = true → PW X _ (tT W X.K cs (clOf P k) (.or a b)) := fun z => or_pw ((ia t N sc X W _ g h1).2.1 z) ((ib t N sc X W _ g h2).2.2 z _ _ _ rfl)
    exact ⟨fun z => or_pe ((ia t N sc X W _ g h1).1 z) ((ib t N sc X W _ g h2).1 z), fun z => (pw z).pt, fun z _ _ _ e => by cases e; exact pw z⟩
  | .not a => fun t N sc X W e0 g h => by
    have ia := snd_E a
    unfold chkE at h
    split at h
    all_goals try (cases ‹(E.not a : E) = _›)
    all_goals first | (cases h; done) | skip
    exact ⟨fun z => not_pe ((ia t N sc X W _ g h).1 z), fun z => not_pt ((ia t N sc X W _ g h).2.1 z), fun _ _ _ _ e => Expr.noConfusion e⟩
  | .ife c a b => fun t N sc X W e0 g h => by
    have ic := snd_E c
    have ia := snd_E a
    have ib := snd_E b
    unfold chkE at h
    split at h
    all_goals try (cases ‹(E.ife c a b : E) = _›)
    all_goals first | (cases h; done) | skip
    simp only [Bool.and_eq_true, Bool.not_eq_true'] at h
    obtain ⟨⟨⟨h0, h1⟩, h2⟩, h3⟩ := h
    have nt : t = true → False := fun z => by rw [h0] at z; cases z
    exact ⟨fun _ => ife_pe ((ic true N sc X W _ g h1).2.1 rfl) ((ia false N sc X W _ g h2).1 rfl) ((ib false N sc X W _ g h3).1 rfl), fun z => (nt z).elim, fun z => (nt z).elim⟩
  | .one a => fun t N sc X W e0 g h => by
    have ia := snd_E a
    unfold chkE at h
    split at h
    all_goals try (cases ‹(E.one a : E) = _›)
    all_goals first | (cases h; done) | skip
    exact ⟨fun z => one_pe ((ia t N sc X W _ g h).1 z), fun z => (one_pw ((ia t N sc X W _ g h).2.1 z)).pt, fun z _ _ _ e => one_pw ((ia t N sc X W _ g h).2.1 z)⟩
  | .tru a => fun t N sc X W e0 g h => by
    have ia := snd_E a
    unfold chkE at h
    simp only [Bool.and_eq_true] at h
    obtain ⟨⟨h0, h1⟩, h2⟩ := h
    subst h0
    exact ⟨fun z => Bool.noConfusion z, fun _ => tru_pt g (opd_pe g h2 ia) h1, fun _ _ _ _ e => by subst e; cases h1⟩
  | .chain o1 o2 a b c => fun t N sc X W e0 g h => by
    have ia := snd_E a
    have ib := snd_E b
    have ic := snd_E c
    unfold chkE at h
    split at h
    all_goals try (cases ‹(E.chain o1 o2 a b c : E) = _›)
    all_goals first | (cases h; done) | skip
    simp only [Bool.and_eq_true, decide_eq_true_eq, Bool.not_eq_true'] at h
    obtain ⟨⟨⟨⟨⟨⟨h1, h2⟩, h3⟩, h4⟩, h5⟩, h6⟩, h7⟩ := h
    subst h1 h2
    have pa := (ia false N sc X W _ g h5).1 rfl
    have pb := (ib false N sc X W _ g h6).1 rfl
    have pc := (ic false N sc X W _ g h7).1 rfl
    exact ⟨fun _ => chain_pe g h3 h4 pa pb pc, fun _ => chain_pt g h3 h4 pa pb pc, fun _ _ _ _ e => Expr.noConfusion e⟩
  | .call f es => fun t N sc X W e0 g h => by
    have ih : SndEs P G k cs es := snd_Es es
    unfold chkE at h
    split at h
    all_goals try (cases ‹(E.call f es : E) = _›)
    all_goals first | (cases h; done) | skip
    simp only [Bool.and_eq_true, decide_eq_true_eq] at h
    obtain ⟨⟨⟨h1, h0⟩, h2⟩, h3⟩ := h
    exact val_both t (call_pe g h0 h1 h2 (ih N sc X W _ g h3)) rfl fun _ _ _ => Expr.noConfusion
  | .lc own p it ifs e => fun t N sc X W e0 g h => by
    have ie := snd_E e
    have io' : SndO P G k cs ifs := snd_O ifs
    have io := io'.1
    have ii : SndI P G k cs it := snd_I it
    unfold chkE at h
    split at h
    all_goals try (cases ‹(E.lc own p it ifs e : E) = _›)
    all_goals first | (cases h; done) | skip
    simp only [Bool.and_eq_true, decide_eq_true_eq] at h
    obtain ⟨⟨⟨⟨⟨⟨h1, h2⟩, h3⟩, h4⟩, h5⟩, h6⟩, h7⟩ := h
    obtain ⟨pi, pf⟩ := ii N sc X W _ _ g h5 h3
    exact val_both t (lc_pe g h1 h2 h4 pi pf (fun X' g' => io N _ X' _ _ g' h6) fun X' g' => (ie false N _ X' _ _ g' h7).1 rfl) rfl fun _ _ _ => Expr.noConfusion
  | .pop i es => fun t N sc X W e0 g h => by
    have ih : SndEs P G k cs es := snd_Es es
    unfold chkE at h
    split at h
    all_goals try (cases ‹(E.pop i es : E) = _›)
    all_goals first | (cases h; done) | skip
    simp only [Bool.and_eq_true, decide_eq_true_eq] at h
    obtain ⟨⟨⟨⟨h1, h2⟩, h3⟩, h4⟩, h5⟩ := h
    subst h2
    exact val_both t (pop_pe g h1 (ih N sc X W _ g h5) h3 h4) rfl fun _ _ _ => Expr.noConfusion
  | .fld a x => fun t N sc X W e0 g h => by
    have ia := snd_E a
    unfold chkE at h
    split at h
    all_goals try (cases ‹(E.fld a x : E) = _›)
    all_goals first | (cases h; done) | skip
    simp only [Bool.and_eq_true, decide_eq_true_eq] at h
    obtain ⟨⟨h1, h2⟩, h3⟩ := h
    subst h1
    exact val_both t (fld_pe (opd_pe g h3 ia) h2) rfl fun _ _ _ => Expr.noConfusion
  | .prop c n x a => fun t N sc X W e0 g h => by
    have ia := snd_E a
    unfold chkE at h
    split at h
    all_goals try (cases ‹(E.prop c n x a : E) = _›)
    all_goals first | (cases h; done) | skip
    simp only [Bool.and_eq_true, decide_eq_true_eq] at h
    obtain ⟨⟨⟨h1, h2⟩, h3⟩, h4⟩ := h
    subst h1
    exact val_both t (prop_pe g h2 (opd_pe g h4 ia) h3) rfl fun _ _ _ => Expr.noConfusion
  | .oeq c n ne a b => fun t N sc X W e0 g h => by
    have ia := snd_E a
    have ib := snd_E b
    unfold chkE at h
    split at h
    all_goals try (cases ‹(E.oeq c n ne a b : E) = _›)
    all_goals first | (cases h; done) | skip
    rw [Bool.and_eq_true, Bool.and_eq_true, Bool.and_eq_true, Bool.and_eq_true, decide_eq_true_eq, Bool.not_eq_true'] at h
    obtain ⟨⟨⟨⟨h1, h2⟩, h3⟩, h4⟩, h5⟩ := h
    have e := op_of h2
    subst e
    have pa := (ia false N sc X W _ g h4).1 rfl
    have pb := (ib false N sc X W _ g h5).1 rfl
    exact ⟨fun _ => oeq_pe g h1 h3 pa pb, fun _ => oeq_pt g h1 h3 pa pb, fun _ _ _ _ e => Expr.noConfusion e⟩
theorem snd_Es : ∀ es : Es, SndEs P G k cs es
  | .nil => fun N sc X W xs g h => by
    cases xs <;> first | (simp [chkEs] at h; done) | skip
    exact .nil
  | .cons e es => fun N sc X W xs g h => by
    cases xs <;> first | (simp [chkEs] at h; done) | skip
    simp only [chkEs, Bool.and_eq_true] at h
    exact .cons (opd_pe g h.1 (snd_E e)) (notStar h.1) (snd_Es es N sc X W _ g h.2)
theorem snd_O : ∀ o : Oe, SndO P G k cs o
  | .no => ⟨fun N sc X W xs g h => by
      cases xs <;> first | (simp [chkO] at h; done) | skip
      exact pts_no, fun N sc X W y g h => by
      cases y <;> first | (simp [chkP] at h; done) | skip
      exact .inl ⟨rfl, rfl⟩⟩
  | .yes c => ⟨fun N sc X W xs g h => by
      have ic := snd_E c
      match xs, h with
      | [x], h =>
        simp only [chkO] at h
        exact pts_yes ((ic true N sc X W _ g h).2.1 rfl), fun N sc X W y g h => by
      have ic := snd_E c
      match y, h with
      | some y, h =>
        simp only [chkP] at h
        exact .inr ⟨c, _, rfl, rfl, (ic false N sc X W _ g h).1 rfl⟩⟩
theorem snd_I : ∀ it : AM.It, SndI P G k cs it
  | .seq e => fun N sc X W tg x g h ht => by
    have ie := snd_E e
    unfold chkI at h
    simp only [Bool.and_eq_true, Bool.not_eq_true'] at h
    exact ⟨seq_pi (opd_pe g h.2 ie), fold_pure h.1⟩
  | .rng es => fun N sc X W tg x g h ht => by
    have ih : SndEs P G k cs es := snd_Es es
    unfold chkI at h
    split at h <;> try (cases ‹(AM.It.rng es) = _›)
    · simp only [Bool.and_eq_true, decide_eq_true_eq] at h
      obtain ⟨⟨⟨⟨h1, h2⟩, h3⟩, h4⟩, h5⟩ := h
      subst h1
      exact ⟨rng_pi g h2 h3 h4 (ih N sc X W _ g h5), fun _ _ => rfl⟩
    · cases h
  | .enum e => fun N sc X W tg x g h ht => by
    have ie := snd_E e
    unfold chkI at h
    split at h <;> try (cases ‹(AM.It.enum e) = _›)
    · simp only [Bool.and_eq_true, decide_eq_true_eq] at h
      obtain ⟨⟨⟨h1, h2⟩, h3⟩, h5⟩ := h
      subst h1
      cases tg <;> first | (cases ht; done) | skip
      exact ⟨enum_pi g h2 h3 (opd_pe g h5 ie) (notStar h5), fun _ _ => rfl⟩
    · cases h
  | .zip es => fun N sc X W tg x g h ht => by
    have ih : SndEs P G k cs es := snd_Es es
    unfold chkI at h
    split at h <;> try (cases ‹(AM.It.zip es) = _›)
    · simp only [Bool.and_eq_true, decide_eq_true_eq] at h
      obtain ⟨⟨⟨h1, h2⟩, h3⟩, h5⟩ := h
      subst h1
      cases tg <;> first | (cases ht; done) | skip
      exact ⟨zip_pi g h2 h3 (ih N sc X W _ g h5), fun _ _ => rfl⟩
    · cases h
end
end
end AM

set_option maxHeartbeats 8000000
/-! statements: readings and moves -/
namespace AM
open PySem PySem.Spec PyProof.Rows L2
section
variable {K : PySem.W.Frag} {cs : Cst} {C : Cl} {W : WX} {F H F1 H1 F' H' : Hp} {env env1 env' : AM.Env} {σ σ1 σ' : L2.St} {l l' : List Nat}

/-- slots outside l are as they were -/
def Same (l : List Nat) (σ σ' : L2.St) : Prop := σ'.length = σ.length ∧ ∀ j, j ∉ l → σ'[j]? = σ[j]?
theorem Same.refl (l : List Nat) (σ : L2.St) : Same l σ σ := ⟨rfl, fun _ _ => rfl⟩
theorem Same.trans (a : Same l σ σ1) (b : Same l σ1 σ') : Same l σ σ' := ⟨b.1.trans a.1, fun j h => (b.2 j h).trans (a.2 j h)⟩
theorem Same.mono (a : Same l σ σ') (h : ∀ i ∈ l, i ∈ l') : Same l' σ σ' := ⟨a.1, fun j hj => a.2 j fun z => hj (h j z)⟩
/-- from one state to a later one -/
structure Mv (K : PySem.W.Frag) (cs : Cst) (F H : Hp) (env : AM.Env) (σ : L2.St) (l : List Nat) (F' H' : Hp) (env' : AM.Env) (σ' : L2.St) : Prop where
  ext : Ext F H (Own env σ) F' H' (Own env' σ')
  rel : Rel K cs F' H' env' σ'
  same : Same l σ σ'
theorem Mv.refl (r : Rel K cs F H env σ) : Mv K cs F H env σ l F H env σ := ⟨Ext.refl _ _ _, r, Same.refl _ _⟩
theorem Mv.trans (a : Mv K cs F H env σ l F1 H1 env1 σ1) (b : Mv K cs F1 H1 env1 σ1 l F' H' env' σ') : Mv K cs F H env σ l F' H' env' σ' := ⟨a.ext.trans b.ext, b.rel, a.same.trans b.same⟩
theorem Mv.one (x : Ext F H (Own env σ) F' H' (Own env' σ)) (r : Rel K cs F' H' env' σ) : Mv K cs F H env σ l F' H' env' σ := ⟨x, r, Same.refl _ _⟩
theorem Mv.mono (a : Mv K cs F H env σ l F' H' env' σ') (h : ∀ i ∈ l, i ∈ l') : Mv K cs F H env σ l' F' H' env' σ' := ⟨a.ext, a.rel, a.same.mono h⟩

def Fresh (F H : Hp) (env : AM.Env) (σ : L2.St) (env' : AM.Env) (σ' : L2.St) (t : T) (v : V) : Prop := t.own = true → ∀ p, v = .ref p → ¬ Own env' σ' p ∧ (Own env σ p ∨ H p = none)
theorem Ext.back {O O1 : Addr → Prop} (a : Ext F H O F1 H1 O1) {p : Addr} (h : O1 p ∨ H1 p = none) : O p ∨ H p = none := by
  rcases h with q | q
  · exact a.own p q
  · by_cases h1 : O p
    · exact .inl h1
    · right
      cases e : H p with
      | none => rfl
      | some u => rw [a.keep p u e h1] at q; cases q
theorem Fresh.back (a : Ext F H (Own env σ) F1 H1 (Own env1 σ1)) {t : T} {v : V} (h : Fresh F1 H1 env1 σ1 env' σ' t v) : Fresh F H env σ env' σ' t v := fun o p e => ⟨(h o p e).1, a.back (h o p e).2⟩

def WxS (W : WX) (K : PySem.W.Frag) (cs : Cst) (F H : Hp) (env : AM.Env) (σ : L2.St) (l : List Nat) : AM.X → AM.Env → Prop := fun x env' => ∀ cl d σ' F' H', Mv K cs F H env σ l F' H' env' σ' → RepX K cs F' H' x cl d → W cl d σ' H'
def KsOf (K : PySem.W.Frag) (cs : Cst) (F H : Hp) (env : AM.Env) (σ : L2.St) (l : List Nat) (D : Ends) : Fl → AM.Env → Prop := fun f env' => match f with
  | .nx => ∀ σ' F' H', Mv K cs F H env σ l F' H' env' σ' → D.nx σ' H'
  | .bk => ∀ σ' F' H', Mv K cs F H env σ l F' H' env' σ' → D.bk σ' H'
  | .ct => ∀ σ' F' H', Mv K cs F H env σ l F' H' env' σ' → D.ct σ' H'
  | .rt t => ∀ v σ' F' H', Mv K cs F H env σ l F' H' env' σ' → RepT K cs F' H' t v → Fresh F H env σ env' σ' t v → D.rt v H'
theorem WxS.move (m : Mv K cs F H env σ l F1 H1 env1 σ1) {x : AM.X} {e : AM.Env} (h : WxS W K cs F H env σ l x e) : WxS W K cs F1 H1 env1 σ1 l x e := fun cl d σ' F' H' m2 r => h cl d σ' F' H' (m.trans m2) r
theorem KsOf.move (m : Mv K cs F H env σ l F1 H1 env1 σ1) {D : Ends} {f : Fl} {e : AM.Env} (h : KsOf K cs F H env σ l D f e) : KsOf K cs F1 H1 env1 σ1 l D f e := by
  cases f with
  | nx => exact fun σ' F' H' m2 => h σ' F' H' (m.trans m2)
  | bk => exact fun σ' F' H' m2 => h σ' F' H' (m.trans m2)
  | ct => exact fun σ' F' H' m2 => h σ' F' H' (m.trans m2)
  | rt t => exact fun v σ' F' H' m2 r q => h v σ' F' H' (m.trans m2) r (q.back m.ext)
theorem WxS.at (m : Mv K cs F H env σ l F1 H1 env1 σ1) {x : AM.X} {e : AM.Env} (h : WxS W K cs F H env σ l x e) : WxOf W K cs F1 H1 env1 σ1 x e := fun cl d F' H' x2 r2 q => h cl d σ1 F' H' (m.trans (Mv.one x2 r2)) q
/-- what the rest is to reach -/
abbrev Fs (W : WX) (K : PySem.W.Frag) (cs : Cst) (l : List Nat) (D : Ends) (r : R Fl) (F H : Hp) (env : AM.Env) (σ : L2.St) : Prop := Fit r (WxS W K cs F H env σ l) (KsOf K cs F H env σ l D)
theorem Fs.move {D : Ends} {r : R Fl} (m : Mv K cs F H env σ l F1 H1 env1 σ1) (h : Fs W K cs l D r F H env σ) : Fs W K cs l D r F1 H1 env1 σ1 := Fit.mono h (fun _ _ z => z.move m) fun _ _ z => z.move m

/-- the readings -/
def tS (W : WX) (K : PySem.W.Frag) (cs : Cst) (C : Cl) (isa : Nat → Nat → Bool) (l : List Nat) (s : S) : TS := fun D σ H => ∃ F env, Rel K cs F H env σ ∧ Fs W K cs l D (evS C isa s env) F H env σ
def tSs (W : WX) (K : PySem.W.Frag) (cs : Cst) (C : Cl) (isa : Nat → Nat → Bool) (l : List Nat) (ss : Ss) : TS := fun D σ H => ∃ F env, Rel K cs F H env σ ∧ Fs W K cs l D (evSs C isa ss env) F H env σ

/-- a step of a statement: behind an expression -/
theorem sstep {c : E} {D : Ends} {g : T → AM.Env → R Fl} {Q : VK} (r : Rel K cs F H env σ) (f : Fs W K cs l D ((evE C c env).bind g) F H env σ)
    (h : ∀ t env' v F' H', Post K cs F H env σ F' H' env' t v → Fs W K cs l D (g t env') F H env σ → Q v H') : tE W K cs C c σ H Q :=
  ⟨F, env, r, f.bind.mono (fun _ _ z => z.at (Mv.refl r)) fun t env' z v F' H' p => h t env' v F' H' p z⟩
theorem sstepT {c : E} {D : Ends} {g : Bool → AM.Env → R Fl} {Q : Bool → Hp → Prop} (r : Rel K cs F H env σ) (f : Fs W K cs l D (((evE C c env).bl).bind g) F H env σ)
    (h : ∀ b env' F' H', Mv K cs F H env σ l F' H' env' σ → Fs W K cs l D (g b env') F H env σ → Q b H') : tT W K cs C c σ H Q :=
  ⟨F, env, r, f.bind.mono (fun _ _ z => z.at (Mv.refl r)) fun b env' z F' H' x r' => h b env' F' H' (Mv.one x r') z⟩

/-- a slot is stored anew -/
theorem Rel.setT {i : Nat} {t : T} {v : V} (r : Rel K cs F H env σ) (hi : i < env.length) (h : RepT K cs F H t v) (n : t.own = true → ∀ p, v = .ref p → ¬ Own env σ p) :
    Rel K cs F H (env.set i (some t)) (σ.set i (some v)) ∧ ∀ p, Own (env.set i (some t)) (σ.set i (some v)) p → Own env σ p ∨ (t.own = true ∧ v = .ref p) := by
  have hiσ : i < σ.length := by rw [← r.len]; exact hi
  have cls : ∀ (j : Nat) (u : T) (w : V), (env.set i (some t))[j]? = some (some u) → (σ.set i (some v))[j]? = some (some w) → (j = i ∧ u = t ∧ w = v) ∨ (j ≠ i ∧ env[j]? = some (some u) ∧ σ[j]? = some (some w)) := fun j u w e e2 => by
    by_cases hj : j = i
    · subst hj
      rw [List.getElem?_set_self hi] at e
      rw [List.getElem?_set_self hiσ] at e2
      cases e; cases e2
      exact .inl ⟨rfl, rfl, rfl⟩
    · rw [List.getElem?_set_ne (Ne.symm hj)] at e e2
      exact .inr ⟨hj, e, e2⟩
  refine ⟨⟨by rw [List.length_set, List.length_set]; exact r.len, r.fin, fun j u e => ?_, fun a b u w p e1 e2 o1 o2 s1 s2 => ?_⟩, fun p hp => ?_⟩
  · by_cases hj : j = i
    · subst hj
      rw [List.getElem?_set_self hi] at e
      cases e
      exact ⟨v, List.getElem?_set_self hiσ, h⟩
    · rw [List.getElem?_set_ne (Ne.symm hj)] at e ⊢
      exact r.slot j u e
  · rcases cls a u _ e1 s1 with ⟨rfl, rfl, z⟩ | ⟨n1, f1, g1⟩
    · rcases cls b w _ e2 s2 with ⟨rfl, _, _⟩ | ⟨n2, f2, g2⟩
      · rfl
      · exact (n o1 p z.symm ⟨b, w, f2, o2, g2⟩).elim
    · rcases cls b w _ e2 s2 with ⟨rfl, rfl, z⟩ | ⟨n2, f2, g2⟩
      · exact (n o2 p z.symm ⟨a, u, f1, o1, g1⟩).elim
      · exact r.sep a b u w p f1 f2 o1 o2 g1 g2
  · obtain ⟨j, u, e, o, s⟩ := hp
    rcases cls j u _ e s with ⟨rfl, rfl, z⟩ | ⟨_, f1, g1⟩
    · exact .inr ⟨o, z.symm⟩
    · exact .inl ⟨j, u, f1, o, g1⟩
theorem Same.set {i : Nat} {v : Option V} (h : i ∈ l) : Same l σ (σ.set i v) := ⟨List.length_set .., fun j hj => List.getElem?_set_ne fun z => hj (by rw [← z]; exact h)⟩
/-- .. behind an expression -/
theorem Post.store {i : Nat} {t : T} {v : V} (p : Post K cs F H env σ F' H' env' t v) (hi : i < env'.length) (hl : i ∈ l) : Mv K cs F H env σ l F' H' (env'.set i (some t)) (σ.set i (some v)) := by
  obtain ⟨r2, o⟩ := p.rel.setT hi p.rep fun ow q e => (p.fresh ow q e).1
  refine ⟨⟨p.ext.fr, p.ext.keep, p.ext.new, fun q z => ?_⟩, r2, Same.set hl⟩
  rcases o q z with y | ⟨ow, e⟩
  · exact p.ext.own q y
  · exact (p.fresh ow q e).2
theorem Fs.step {D : Ends} {r : R Fl} (m : Mv K cs F H env σ l F1 H1 env1 σ1) (h : Fs W K cs l D r F H env σ) : ∃ F env, Rel K cs F H1 env σ1 ∧ Fs W K cs l D r F H1 env σ1 := ⟨F1, env1, m.rel, h.move m⟩
/-- a slot is given up -/
theorem Rel.drop {i : Nat} {t : T} {v : V} (r : Rel K cs F H env σ) (he : env[i]? = some (some t)) (hs : σ[i]? = some (some v)) : Rel K cs F H (env.set i none) σ ∧ (∀ p, Own (env.set i none) σ p → Own env σ p) ∧ (t.own = true → ∀ p, v = .ref p → ¬ Own (env.set i none) σ p ∧ Own env σ p) := by
  have hi : i < env.length := (List.getElem?_eq_some_iff.mp he).1
  have back : ∀ (j : Nat) (u : T), (env.set i none)[j]? = some (some u) → j ≠ i ∧ env[j]? = some (some u) := fun j u e => by
    by_cases hj : j = i
    · subst hj
      rw [List.getElem?_set_self hi] at e
      cases e
    · rw [List.getElem?_set_ne (Ne.symm hj)] at e
      exact ⟨hj, e⟩
  refine ⟨⟨by rw [List.length_set]; exact r.len, r.fin, fun j u e => r.slot j u (back j u e).2, fun a b u w p e1 e2 o1 o2 s1 s2 => r.sep a b u w p (back a u e1).2 (back b w e2).2 o1 o2 s1 s2⟩, fun p ⟨j, u, e, o, s⟩ => ⟨j, u, (back j u e).2, o, s⟩, fun ow p e => ⟨fun ⟨j, u, e1, o, s⟩ => ?_, ⟨i, t, he, ow, by rw [hs, e]⟩⟩⟩
  obtain ⟨n, f⟩ := back j u e1
  exact n (r.sep j i u t p f he o ow s (by rw [hs, e]))
/-- .. or kept from now on -/
theorem Rel.freeze {i : Nat} {t : T} (r : Rel K cs F H env σ) (he : env[i]? = some (some t)) : ∃ F', Mv K cs F H env σ l F' H (env.set i (some (.d t.snap))) σ := by
  obtain ⟨v, hv, rt⟩ := r.slot i t he
  obtain ⟨rd, ob, fr⟩ := r.drop he hv
  have hi : i < env.length := (List.getElem?_eq_some_iff.mp he).1
  have p : Post K cs F H env σ F H (env.set i none) t v := ⟨⟨Sub.refl F, fun _ _ h _ => h, fun _ a b => absurd b a, fun q z => .inl (ob q z)⟩, rd, rt, fun o q e => ⟨(fr o q e).1, .inl (fr o q e).2⟩⟩
  obtain ⟨F2, p2, s⟩ := p.kept
  have hi2 : i < (env.set i none).length := by rw [List.length_set]; exact hi
  have m := p2.store (l := [i]) hi2 List.mem_cons_self
  have e1 : (env.set i none).set i (some (T.d t.snap)) = env.set i (some (.d t.snap)) := List.set_set ..
  have hσ : σ.set i (some v) = σ := by
    refine List.ext_getElem? fun j => ?_
    by_cases hj : j = i
    · subst hj
      rw [List.getElem?_set_self (by rw [← r.len]; exact hi), hv]
    · rw [List.getElem?_set_ne (Ne.symm hj)]
  rw [e1, hσ] at m
  exact ⟨F2, m.ext, m.rel, Same.refl _ _⟩
end
end AM

set_option maxHeartbeats 8000000
/-! statements: the core text against the row's own -/
namespace AM
open PySem PySem.Spec PyProof.Rows L2

def isComp : Expr → Bool
  | .ListComp _ _ _ _ => true
  | .SetComp _ _ _ _ => true
  | .DictComp _ _ _ _ _ => true
  | _ => false
/-- a list comprehension on the name's own line -/
def lcSw (sc : Scope) (y : Str) (py : Pos) (scope : Scope) (pos : Pos) : Bool :=
  decide (sc.names.lookup y = some .local) && (py.line == pos.line) && !(scope.names.any fun (n, k) => n == y && (k == .local || k == .cell))
def setV : Expr → Bool
  | .SetComp _ _ _ _ => false
  | .DictComp _ _ _ _ _ => false
  | _ => true
def isFrz : S → Bool
  | .frz _ => true
  | _ => false
/-- constants alone -/
def chkC : Es → List Expr → Bool
  | .nil, [] => true
  | .cons (.cst d) es, .Constant c _ _ :: xs => cstB d c && chkC es xs
  | _, _ => false
/-- the small suites behind except -/
def chkSu1 (N : List Str) (sc : Scope) : S → Stmt → Bool
  | .set i (.cst d), .Assign [.Name x _] (.Constant c _ _) _ => decide (N[i]? = some x) && decide (sc.names.lookup x = some .local) && cstB d c
  | .set i (.prim .lst es), .Assign [.Name x _] (.List xs _) _ => decide (N[i]? = some x) && decide (sc.names.lookup x = some .local) && chkC es xs
  | .ret (.cst d), .Return (some (.Constant c _ _)) _ => cstB d c
  | .retN, .Return none _ => true
  | .pass, .Pass _ => true
  | .cnt, .Continue _ => true
  | .brk, .Break _ => true
  | _, _ => false
def chkSu (N : List Str) (sc : Scope) : Ss → List Stmt → Bool
  | .nil, [] => true
  | .cons s ss, st :: sts => chkSu1 N sc s st && chkSu N sc ss sts
  | _, _ => false
/-- two names at once -/
def parB (sc : Scope) (x y : Str) (px py : Pos) (a b : Expr) : Bool :=
  decide (sc.names.lookup x = some .local) && decide (sc.names.lookup y = some .local) && (py.line == px.line) && !(x == y) && !(y == x) &&
    !([a, b].all (foldedForSure 8)) && !([a, b].all (constantsAlone 8)) && !([a, b].any fun | .Starred .. => true | _ => false)
def kindF (sc : Scope) : Bool := match sc.kind with
  | .function => true
  | _ => false
mutual
def chkS (G : Ck) (N : List Str) (sc : Scope) : S → Stmt → Bool
  | .set i e, .Assign [.Name x px] v _ => decide (N[i]? = some x) && locB sc x && chkE G N sc false e v && setV v
  | .unp p e, .Assign [tg] v _ => isTup tg && chkPt N sc p tg && !isComp v && !isTup v && (slotOf e).isNone && chkE G N sc false e v
  | .par i j a b, .Assign [.Tuple [.Name x px, .Name y py] _ _] (.Tuple [a', b'] _ _) _ => decide (N[i]? = some x) && decide (N[j]? = some y) && !(i == j) && parB sc x y px py a' b' && chkE G N sc false a a' && chkE G N sc false b b'
  | .setIx i k v, .Assign [.Subscript (.Name x _) k' _] v' _ => nameB N sc i x && !isSlice k' && !isComp v' && chkE G N sc false k k' && chkE G N sc false v v'
  | .aug i o e, .AugAssign (.Name x _) o' e' _ => decide (N[i]? = some x) && locB sc x && decide (o = o') && (match o with | .Add => true | .Sub => true | _ => false) && chkE G N sc false e e'
  | .exp e, .Expr e' _ => !isComp e' && chkE G N sc false e e'
  | .app i e, .Expr (.Call (.Attribute (.Name x _) m apos) [a] [] cpos) _ => nameB N sc i x && decide (m = Str.ofString "append") && (apos.endLine == cpos.line) && (slotOf e).isNone && chkE G N sc false e a
  | .ife c a b, .If c' a' b' _ => chkE G N sc true c c' && chkSs G N sc a a' && chkSs G N sc b b'
  | .fo p it b, .For tg iter body [] _ => chkPt N sc p tg && tgtB it tg && chkI G N sc it iter && chkSs G N sc b body
  | .wh c b, .While c' body [] _ => chkE G N sc true c c' && chkSs G N sc b body
  | .ret e, .Return (some e') _ => chkE G N sc false e e'
  | .mov i, .Return (some (.Name x _)) _ => nameB N sc i x
  | .retN, .Return none _ => true
  | .brk, .Break _ => true
  | .cnt, .Continue _ => true
  | .pass, .Pass _ => true
  | .rais c .nil, .Raise (some (.Call (.Name x _) [] [] _)) none _ => decide (G.xc[c]? = some x) && decide (c ∈ G.xp) && glB sc x
  | .tr b hs, .Try body hds [] [] _ => !hds.isEmpty && chkSs G N sc b body && chkHs G N sc hs hds
  | _, _ => false
def chkSs (G : Ck) (N : List Str) (sc : Scope) : Ss → List Stmt → Bool
  | .nil, sts => sts.isEmpty
  | .cons s ss, sts => match isFrz s with
    | true => chkSs G N sc ss sts
    | false => match sts with
      | st :: r => chkS G N sc s st && chkSs G N sc ss r
      | [] => false
def chkHs (G : Ck) (N : List Str) (sc : Scope) : Hs → List ExceptHandler → Bool
  | .nil, hds => hds.isEmpty
  | .cons c o b hs, hds => match o, hds with
    | none, .ExceptHandler (some (.Name x _)) none (b0 :: suite) _ :: r => decide (G.xc[c]? = some x) && glB sc x && chkSu N sc b (b0 :: suite) && chkHs G N sc hs r
    | _, _ => false
end

/-- the surroundings of a def's statements -/
structure GoodS (P : Tx) (G : Ck) (k : Nat) (cs : Cst) (W : WX) (N : List Str) (sc : Scope) (X : Cx) : Prop extends Good P G k cs W N sc X where
  knd : sc.kind = .function
  stk : X.stack = X.env :: X.outer
  frm : X.env.frame = some X.env.locals
  fnl : ∀ x, locB sc x = true → X.fn x = true ∨ sc.names.lookup x = some .local
  cls : ∀ (c : Nat) (x : Str), G.xc[c]? = some x → ∃ a, cs c = some a ∧ X.mg x = some (.ref a)
  mkx : ∀ (c : Nat) (x : Str) (a : Addr), G.xc[c]? = some x → c ∈ G.xp → cs c = some a → PySem.W.keepIn X.K (.ref a) = true ∧ Raises X (.ref a) ∧ ∃ bmB B newId initId, ExcBaseFacts B newId initId bmB ∧ PySem.W.excIn X.K a bmB newId = true
  exm : ∀ (c c2 : Nat) (a a2 : Addr) (x2 : Str), cs c = some a → G.xc[c2]? = some x2 → cs c2 = some a2 → PySem.W.exmOne X.K (.ref a) (.ref a2) = some (P.isa c c2)
section
variable {P : Tx} {G : Ck} {k : Nat} {cs : Cst} {W : WX} {N : List Str} {sc : Scope} {X : Cx} {l : List Nat}
abbrev tSP (P : Tx) (k : Nat) (W : WX) (K : PySem.W.Frag) (cs : Cst) (l : List Nat) (s : S) : TS := tS W K cs (clOf P k) P.isa l s
abbrev tSPs (P : Tx) (k : Nat) (W : WX) (K : PySem.W.Frag) (cs : Cst) (l : List Nat) (s : Ss) : TS := tSs W K cs (clOf P k) P.isa l s
theorem PS.imp {st : Stmt} {t t' : TS} (h : PS X st t) (q : ∀ D σ H, t' D σ H → t D σ H) : PS X st t' := ⟨fun pins s σ H D I w => h.run pins s σ H D I (q D σ H w)⟩
theorem PSs.imp {st : List Stmt} {t t' : TS} (h : PSs X st t) (q : ∀ D σ H, t' D σ H → t D σ H) : PSs X st t' := ⟨fun pins s σ H D I w => h.run pins s σ H D I (q D σ H w)⟩
theorem sw_false {v : Expr} {o : Option Expr} {n : Nat} {env : PySem.Env} (h : isComp v = false) : swapsWith v o n env = pure false := by
  cases v <;> first | rfl | (cases h; done)
theorem lname (g : Good P G k cs W N sc X) {i : Nat} {x : Str} (h1 : N[i]? = some x) (h2 : locB sc x = true) : X.N.Nodup ∧ X.N[i]? = some x ∧ Loc X.env.scope x := ⟨by rw [g.hN]; exact g.nd, by rw [g.hN]; exact h1, by rw [g.hsc]; exact locB_of h2⟩

/-! ### stores -/
theorem set_read {K : PySem.W.Frag} {C : Cl} {isa : Nat → Nat → Bool} {i : Nat} {e : E} {D : Ends} {F H : Hp} {env : AM.Env} {σ : L2.St} (hl : i ∈ l) (r : Rel K cs F H env σ) (f : Fs W K cs l D (evS C isa (.set i e) env) F H env σ) : tAsg (tE W K cs C e) (gName i) D σ H := by
  unfold evS at f
  refine sstep r f fun t env' v F' H' p g => ?_
  unfold setS at g
  by_cases hi : i < env'.length
  · rw [if_pos hi] at g
    exact g _ _ _ (p.store hi hl)
  · rw [if_neg hi] at g
    exact g.elim
theorem set_ps (g : GoodS P G k cs W N sc X) {i : Nat} {e : E} {x : Str} {px pos : Pos} {v : Expr} (h1 : N[i]? = some x) (h2 : locB sc x = true) (hfn : X.fn x = true ∨ X.env.scope.names.lookup x = some .local) (he : PE X v (tE W X.K cs (clOf P k) e)) (hs : swapsWith v (some (.Name x px)) pos.line X.env = pure false) (hl : i ∈ l) :
    PS X (.Assign [.Name x px] v pos) (tSP P k W X.K cs l (.set i e)) := by
  obtain ⟨n1, n2, n3⟩ := lname g.toGood h1 h2
  exact PS.imp (ps_set n1 n2 n3 he hs hfn) fun D σ H ⟨F, env, r, f⟩ => set_read hl r f
theorem lc_ps (g : GoodS P G k cs W N sc X) {i : Nat} {own : List (Str × Nat)} {p : Pt} {it : AM.It} {ifs : Oe} {e : E} {x : Str} {px pos lp : Pos} {elt tg iter : Expr} {ifs' : List Expr} {scope : Scope} (h1 : N[i]? = some x) (h2 : lcSw sc x px scope lp = true) (hl : i ∈ l)
    (hb : blkC N sc scope own = true) (hp : chkPt N scope p tg = true) (hs : ∀ i ∈ p.slots, i ∈ own.map (·.2)) (hi : PI X tg iter (wI W X.K cs (clOf P k) it)) (hf : ∀ env x, foldedSetIterable iter env x = pure x)
    (ho : ∀ X', Good P G k cs noW N (relS scope sc) X' → PTs X' ifs' (tOe noW X'.K cs (clOf P k) ifs)) (he : ∀ X', Good P G k cs noW N (relS scope sc) X' → PE X' elt (tE noW X'.K cs (clOf P k) e)) :
    PS X (.Assign [.Name x px] (.ListComp elt [⟨tg, iter, ifs', 0⟩] scope lp) pos) (tSP P k W X.K cs l (.set i (.lc own p it ifs e))) := by
  unfold lcSw at h2
  simp only [Bool.and_eq_true, decide_eq_true_eq, Bool.not_eq_true'] at h2
  obtain ⟨⟨a1, a2⟩, a3⟩ := h2
  have hyl : X.env.scope.names.lookup x = some .local := by rw [g.hsc]; exact a1
  have gg := g.toGood
  refine PS.imp (ps_setLc (wi := wI W X.K cs (clOf P k) it) (g := gPt X.K p) (tt := tOe noW X.K cs (clOf P k) ifs) (te := tE noW X.K cs (clOf P k) e) (own := own) g.calm (by rw [g.hN]; exact g.nd) (by rw [g.hN]; exact h1) hyl (sw_true (by rw [g.hsc]; exact g.knd) hyl a2 a3) hi (by rw [g.hN, g.hsc]; exact blkOk_by hb)
    (fun s H C cl fp => ?_) (fun s H C cl fp => ho _ (gg.blk scope s H C cl fp)) (fun s H C cl fp => he _ (gg.blk scope s H C cl fp)) (hf X.env)) fun D σ H ⟨F, env, r, f⟩ => ?_
  · exact pt_pg (X := X.blk s H scope (compEnvC scope cl C X.env) fp) g.hN g.nd g.calm (locB_blk gg scope s H C cl fp) p tg hp
  · obtain ⟨F2, env2, r2, f2⟩ := set_read hl r f
    exact lc_read hs r2 f2
theorem unp_ps (g : GoodS P G k cs W N sc X) {p : Pt} {e : E} {tg v : Expr} {pos : Pos} (ht : isTup tg = true) (hp : chkPt N sc p tg = true) (hf : ∀ x, locB sc x = true → Loc X.env.scope x ∧ (X.fn x = true ∨ X.env.scope.names.lookup x = some .local)) (hc : isComp v = false) (hv : isTup v = false)
    (he : PE X v (tE W X.K cs (clOf P k) e)) (hl : ∀ i ∈ p.slots, i ∈ l) : PS X (.Assign [tg] v pos) (tSP P k W X.K cs l (.unp p e)) := by
  cases tg <;> first | (cases ht; done) | skip
  rename_i es j tp
  have hg : PG X (.Tuple es j tp) (gPt X.K p) := pt_pg g.hN g.nd g.calm hf p _ hp
  refine PS.imp (ps_asg he hg (by cases v <;> first | rfl | (cases hc; done)) ?_ rfl) fun D σ H ⟨F, env, r, f⟩ => ?_
  · cases v <;> first | rfl | (cases hv; done)
  · unfold evS at f
    refine sstep r f fun t env' v F' H' p' g => ?_
    obtain ⟨F2, p2, s⟩ := p'.kept
    split at g
    · rename_i env2 e2
      refine bind_run p e2 p2.rel p2.rep fun σ' r' o s l' => g _ F2 _ ⟨⟨p2.ext.fr, p2.ext.keep, p2.ext.new, fun q z => p2.ext.own q (o q z)⟩, r', l', fun j hj => s j fun z => hj (hl j z)⟩
    · exact g.elim
theorem par_sw {x y : Str} {px py tp vp : Pos} {a b : Expr} {kt k2 : Nat} (hk : X.env.scope.kind = .function) (hsc : X.env.scope = sc) (h : parB sc x y px py a b = true) : swappedStores [.Tuple [.Name x px, .Name y py] kt tp] (.Tuple [a, b] k2 vp) X.env = pure (some [x, y]) := by
  unfold parB at h
  simp only [Bool.and_eq_true, decide_eq_true_eq, Bool.not_eq_true'] at h
  obtain ⟨⟨⟨⟨⟨⟨⟨h1, h2⟩, h3⟩, h4⟩, h4'⟩, h5⟩, h6⟩, h7⟩ := h
  have kx : X.env.kindOf x = some .local := by show X.env.scope.names.lookup x = _; rw [hsc]; exact h1
  have ky : X.env.kindOf y = some .local := by show X.env.scope.names.lookup y = _; rw [hsc]; exact h2
  have hb : X.env.blockKind = .function := by unfold PySem.Env.blockKind; rw [hk]; rfl
  have e1 : (X.env.kindOf x == some .local) = true := by rw [kx]; rfl
  have e2 : (X.env.kindOf y == some .local) = true := by rw [ky]; rfl
  have fm : ([Expr.Name x px, Expr.Name y py].filterMap fun
    | .Name id pos => if X.env.kindOf id == some .local && pos.line == px.line then some id else none
    | _ => none) = [x, y] := by
    simp only [List.filterMap_cons, List.filterMap_nil, e1, e2, h3, beq_self_eq_true, Bool.and_self, if_true]
  have ed : [x, y].eraseDups = [x, y] := by
    simp [List.eraseDups_cons, h4']
  unfold swappedStores
  dsimp only
  rw [if_neg (by rw [hb]; exact Bool.false_ne_true)]
  have key : ∀ (st : Bool) (nm : List Str), st = false → nm = [x, y] → (if st = true then pure none else if (nm.length != [Expr.Name x px, Expr.Name y py].length || nm.eraseDups.length != nm.length) = true then pure none else if [a, b].all (foldedForSure 8) = true then pure none
      else if [a, b].all (constantsAlone 8) = true then (do unsupported "assign.tuple-of-constant-expressions:order-of-the-stores"; pure (some nm)) else pure (some nm)) = (pure (some [x, y]) : Sem (Option (List Str))) := by
    intro st nm a1 a2
    subst a1 a2
    rw [if_neg Bool.false_ne_true, ed, if_neg (by exact Bool.false_ne_true), if_neg (by rw [h5]; exact Bool.false_ne_true), if_neg (by rw [h6]; exact Bool.false_ne_true)]
  exact key _ _ h7 fm
end
end AM

set_option maxHeartbeats 8000000
/-! statements: one by one -/
namespace AM
open PySem PySem.Spec PyProof.Rows L2
section
variable {P : Tx} {G : Ck} {k : Nat} {cs : Cst} {W : WX} {N : List Str} {sc : Scope} {X : Cx} {l : List Nat}

theorem par_ps (g : GoodS P G k cs W N sc X) {i j : Nat} {a b : E} {x y : Str} {px py tp vp pos : Pos} {a' b' : Expr} {kt k2 : Nat} (h1 : N[i]? = some x) (h2 : N[j]? = some y) (hij : i ≠ j) (hp : parB sc x y px py a' b' = true)
    (ha : PE X a' (tE W X.K cs (clOf P k) a)) (hb : PE X b' (tE W X.K cs (clOf P k) b)) (sa : ∀ (ys : List Expr) (env : PySem.Env), starEach (a' :: ys) env = (false, eval a' env) :: starEach ys env) (sb : ∀ (ys : List Expr) (env : PySem.Env), starEach (b' :: ys) env = (false, eval b' env) :: starEach ys env)
    (hi : i ∈ l) (hj : j ∈ l) : PS X (.Assign [.Tuple [.Name x px, .Name y py] kt tp] (.Tuple [a', b'] k2 vp) pos) (tSP P k W X.K cs l (.par i j a b)) := by
  have hsw := par_sw (X := X) (kt := kt) (k2 := k2) (tp := tp) (vp := vp) (by rw [g.hsc]; exact g.knd) g.hsc hp
  unfold parB at hp
  simp only [Bool.and_eq_true, decide_eq_true_eq] at hp
  have k1 : X.env.scope.names.lookup x = some .local := by rw [g.hsc]; exact hp.1.1.1.1.1.1.1
  have k2' : X.env.scope.names.lookup y = some .local := by rw [g.hsc]; exact hp.1.1.1.1.1.1.2
  refine PS.imp (ps_par (ta := tCons (tE W X.K cs (clOf P k) a) (tCons (tE W X.K cs (clOf P k) b) tNil)) g.calm (by rw [g.hN]; exact g.nd) (by rw [g.hN]; exact h1) (by rw [g.hN]; exact h2) hij k1 k2' (pa_cons ha (pa_cons hb pa_nil (sb _ _)) (sa _ _)) hsw) fun D σ H ⟨F, env, r, f⟩ => ?_
  unfold evS at f
  refine sstep r f fun t env1 v F1 H1 p1 g1 => ?_
  obtain ⟨F1', p1', s1⟩ := p1.kept
  have m1 : Mv X.K cs F H env σ l F1' H1 env1 σ := Mv.one p1'.ext p1'.rel
  refine sstep p1'.rel (Fs.move m1 g1) fun u env2 w F2 H2 p2 g2 => ?_
  obtain ⟨F2', p2', s2⟩ := p2.kept
  have m2 : Mv X.K cs F1' H1 env1 σ l F2' H2 env2 σ := Mv.one p2'.ext p2'.rel
  have g3 := Fs.move m2 g2
  refine ⟨v, w, rfl, ?_⟩
  unfold setS at g3
  by_cases l1 : i < env2.length
  · rw [if_pos l1, R.bind_ok] at g3
    by_cases l2 : j < (env2.set i (some (.d t.snap))).length
    · rw [if_pos l2] at g3
      have q1 : Post X.K cs F2' H2 env2 σ F2' H2 env2 (.d t.snap) v := Post.stay p2'.rel (RepD.mono p2'.ext.fr p1'.rep)
      have n1 := q1.store (l := l) l1 hi
      have q2 : Post X.K cs F2' H2 _ _ F2' H2 _ (.d u.snap) w := Post.stay n1.rel p2'.rep
      exact g3 _ _ _ (n1.trans (q2.store (l := l) l2 hj))
    · rw [if_neg l2] at g3
      exact g3.elim
  · rw [if_neg l1] at g3
    exact g3.elim
theorem setIx_ps (g : GoodS P G k cs W N sc X) {i : Nat} {a v : E} {x : Str} {px sp pos : Pos} {k' v' : Expr} (h1 : nameB N sc i x = true) (h2 : isSlice k' = false) (h3 : isComp v' = false) (ha : PE X k' (tE W X.K cs (clOf P k) a)) (hv : PE X v' (tE W X.K cs (clOf P k) v)) :
    PS X (.Assign [.Subscript (.Name x px) k' sp] v' pos) (tSP P k W X.K cs l (.setIx i a v)) := by
  have hg : PG X (.Subscript (.Name x px) k' sp) (gSub (tVar i) (tE W X.K cs (clOf P k) a) rSetL) := pg_sub (pe_name g.toGood h1) ha set_list (by intro _; cases k' <;> first | rfl | (cases h2; done))
  refine PS.imp (ps_asg hv hg (by cases v' <;> first | rfl | (cases h3; done)) (by cases v' <;> rfl) rfl) fun D σ H ⟨F, env, r, f⟩ => ?_
  unfold evS at f
  refine sstep r f fun t env1 w F1 H1 p1 g1 => ?_
  obtain ⟨F1', p1', s1⟩ := p1.kept
  have m1 : Mv X.K cs F H env σ l F1' H1 env1 σ := Mv.one p1'.ext p1'.rel
  have g1 := Fs.move m1 g1
  split at g1
  · rename_i xs e0
    obtain ⟨o, hs, rt⟩ := p1'.rel.get e0
    refine ⟨o, hs, ?_⟩
    refine sstep p1'.rel g1 fun tk env2 kv F2 H2 p2 g2 => ?_
    obtain ⟨F2', p2', s2⟩ := p2.kept
    have g3 := Fs.move (Mv.one (l := l) p2'.ext p2'.rel) g2
    unfold putR at g3
    split at g3
    · rename_i ys n e1 e2
      split at g3
      · rename_i jx hj
        obtain ⟨o', hs', rt'⟩ := p2'.rel.get e1
        rw [hs] at hs'; cases hs'
        obtain ⟨p, vs, rfl, hH, hF, rd⟩ := rt'
        have rk : RepD X.K cs F2' (.int n) kv := by rw [← e2]; exact p2'.rep
        cases rk
        have rw' : RepD X.K cs F2' t.snap w := RepD.mono p2'.ext.fr p1'.rep
        obtain ⟨r3, x3, _, _⟩ := p2'.rel.put e1 hs hH (RepDs.set rw' jx rd)
        rw [rd.length] at hj
        exact ⟨p, vs, n, jx, rfl, rfl, hH, hj, g3 _ _ _ (Mv.one x3 r3)⟩
      · exact g3.elim
    · exact g3.elim
  · exact g1.elim
theorem aug_ps (g : GoodS P G k cs W N sc X) {i : Nat} {e : E} {x : Str} {o : Operator} {px pos : Pos} {e' : Expr} (h1 : N[i]? = some x) (h2 : locB sc x = true) (hfn : X.fn x = true ∨ X.env.scope.names.lookup x = some .local) (he : PE X e' (tE W X.K cs (clOf P k) e)) (hl : i ∈ l) (ho : o = .Add ∨ o = .Sub) :
    PS X (.AugAssign (.Name x px) o e' pos) (tSP P k W X.K cs l (.aug i o e)) := by
  obtain ⟨n1, n2, n3⟩ := lname g.toGood h1 h2
  have go : ∀ (fo : Int → Int → Int), PIp X o (ipI fo) → (∀ a b env, augR i o (.int a) (.int b) env = setS i (.d (.int (fo a b))) env) → (∀ x d env, (∀ a b, ¬ (x = .int a ∧ d = .int b)) → augR i o x d env = .no) → PS X (.AugAssign (.Name x px) o e' pos) (tSP P k W X.K cs l (.aug i o e)) := by
    intro fo hp h3 h4
    refine PS.imp (ps_aug n1 n2 n3 he hp hfn) fun D σ H ⟨F, env, r, f⟩ => ?_
    unfold evS at f
    split at f
    · rename_i d e0
      obtain ⟨v, hs, rt⟩ := r.get e0
      refine ⟨v, hs, ?_⟩
      refine sstep r f fun t env' w F' H' p g => ?_
      obtain ⟨F2, p2, s2⟩ := p.kept
      by_cases hh : ∃ a b, d = .int a ∧ t.snap = .int b
      · obtain ⟨a, b, rfl, eb⟩ := hh
        have rw' : RepD X.K cs F2 (.int b) w := by rw [← eb]; exact p2.rep
        cases rw'
        cases (show RepD X.K cs F (.int a) v from rt)
        rw [eb, h3] at g
        refine ⟨a, b, rfl, rfl, ?_⟩
        unfold setS at g
        by_cases hi : i < env'.length
        · rw [if_pos hi] at g
          have q2 : Post X.K cs F H env σ F2 H' env' (.d (.int (fo a b))) (.int (fo a b)) := ⟨p2.ext, p2.rel, .int _, fun z => by cases z⟩
          exact g _ _ _ (q2.store hi hl)
        · rw [if_neg hi] at g
          exact g.elim
      · rw [h4 _ _ _ fun a b z => hh ⟨a, b, z⟩] at g
        exact g.elim
    · exact f.elim
  rcases ho with rfl | rfl
  · refine go _ ip_add (fun _ _ _ => rfl) fun x d env h => ?_
    cases x <;> first | rfl | (cases d <;> first | rfl | exact (h _ _ ⟨rfl, rfl⟩).elim)
  · refine go _ ip_sub (fun _ _ _ => rfl) fun x d env h => ?_
    cases x <;> first | rfl | (cases d <;> first | rfl | exact (h _ _ ⟨rfl, rfl⟩).elim)
theorem exp_ps (g : GoodS P G k cs W N sc X) {e : E} {e' : Expr} {pos : Pos} (hc : isComp e' = false) (he : PE X e' (tE W X.K cs (clOf P k) e)) : PS X (.Expr e' pos) (tSP P k W X.K cs l (.exp e)) := by
  refine PS.imp (ps_expr he (sw_false hc)) fun D σ H ⟨F, env, r, f⟩ => ?_
  unfold evS at f
  exact sstep r f fun t env' v F' H' p g => g _ _ _ (Mv.one p.ext p.rel)
theorem app_ps (g : GoodS P G k cs W N sc X) {i : Nat} {e : E} {x : Str} {a : Expr} {p apos cpos pos : Pos} (hn : nameB N sc i x = true) (he : PE X a (tE W X.K cs (clOf P k) e)) (s : ∀ (ys : List Expr) (env : PySem.Env), starEach (a :: ys) env = (false, eval a env) :: starEach ys env)
    (hl : (apos.endLine == cpos.line) = true) : PS X (.Expr (.Call (.Attribute (.Name x p) (Str.ofString "append") apos) [a] [] cpos) pos) (tSP P k W X.K cs l (.app i e)) := by
  have hv := pe_name (pos := p) g.toGood hn
  have hm : MtR X "list.append" rAppend := mt_append
  have hall : PA X [a] (tCons (tE W X.K cs (clOf P k) e) tNil) := pa_cons he pa_nil (s _ _)
  refine PS.imp (ps_expr (pe_bm PySem.F.plainAttrs_list PySem.F.slot_list_append PySem.F.type_list_append hm hv hall rfl (by rw [s]; rfl) hl (s _ _) rfl) rfl) fun D σ H ⟨F, env, r, f⟩ => ?_
  unfold evS at f
  split at f
  · rename_i xs e0
    obtain ⟨v, hs, p, vs, rfl, hH, hF, rd⟩ := r.get e0
    refine ⟨_, hs, .inl ⟨rfl, _, .inl (.inl hH)⟩, ?_⟩
    refine sstep r f fun t env' w F' H' po g => ?_
    obtain ⟨F2, p2, s2⟩ := po.kept
    have g3 := Fs.move (Mv.one (l := l) p2.ext p2.rel) g
    unfold appR at g3
    split at g3
    · rename_i ys e1
      split at g3
      · rename_i hz
        obtain ⟨v', hs', p', vs', e2, hH', hF', rd'⟩ := p2.rel.get e1
        rw [hs] at hs'; cases hs'
        cases e2
        obtain ⟨r3, x3, _, _⟩ := p2.rel.put e1 hs hH' (rd'.append (.cons p2.rep .nil))
        exact ⟨p, vs', w, rfl, rfl, hH', by rw [← rd'.length]; exact hz, g3 _ _ _ (Mv.one x3 r3)⟩
      · exact g3.elim
    · exact g3.elim
  · exact f.elim
theorem ret_ps (g : GoodS P G k cs W N sc X) {e : E} {e' : Expr} {pos : Pos} (he : PE X e' (tE W X.K cs (clOf P k) e)) : PS X (.Return (some e') pos) (tSP P k W X.K cs l (.ret e)) := by
  refine PS.imp (ps_ret he) fun D σ H ⟨F, env, r, f⟩ => ?_
  unfold evS at f
  exact sstep r f fun t env' v F' H' p g => g v σ F' H' (Mv.one p.ext p.rel) p.rep p.fresh
theorem mov_ps (g : GoodS P G k cs W N sc X) {i : Nat} {x : Str} {p pos : Pos} (hn : nameB N sc i x = true) : PS X (.Return (some (.Name x p)) pos) (tSP P k W X.K cs l (.mov i)) := by
  refine PS.imp (ps_ret (pe_name g.toGood hn)) fun D σ H ⟨F, env, r, f⟩ => ?_
  unfold evS at f
  split at f
  · rename_i t e0
    obtain ⟨v, hs, rt⟩ := r.get e0
    obtain ⟨rd, ob, fr⟩ := r.drop (getD_some e0) hs
    exact ⟨v, hs, f v σ F H ⟨⟨Sub.refl F, fun _ _ h _ => h, fun _ a b => absurd b a, fun q z => .inl (ob q z)⟩, rd, Same.refl _ _⟩ rt fun o q e => ⟨(fr o q e).1, .inl (fr o q e).2⟩⟩
  · exact f.elim
theorem retN_ps {pos : Pos} : PS X (.Return none pos) (tSP P k W X.K cs l .retN) := PS.imp ps_retN fun D σ H ⟨F, env, r, f⟩ => by
  unfold evS at f
  exact f _ σ F H (Mv.refl r) .non fun z => by cases z
theorem brk_ps {pos : Pos} : PS X (.Break pos) (tSP P k W X.K cs l .brk) := PS.imp ps_break fun D σ H ⟨F, env, r, f⟩ => by
  unfold evS at f
  exact f σ F H (Mv.refl r)
theorem cnt_ps {pos : Pos} : PS X (.Continue pos) (tSP P k W X.K cs l .cnt) := PS.imp ps_continue fun D σ H ⟨F, env, r, f⟩ => by
  unfold evS at f
  exact f σ F H (Mv.refl r)
theorem pass_ps {pos : Pos} : PS X (.Pass pos) (tSP P k W X.K cs l .pass) := PS.imp ps_pass fun D σ H ⟨F, env, r, f⟩ => by
  unfold evS at f
  exact f σ F H (Mv.refl r)
theorem ife_ps {c : E} {a b : Ss} {c' : Expr} {a' b' : List Stmt} {pos : Pos} (hc : PT X c' (tT W X.K cs (clOf P k) c)) (ha : PSs X a' (tSPs P k W X.K cs l a)) (hb : PSs X b' (tSPs P k W X.K cs l b)) : PS X (.If c' a' b' pos) (tSP P k W X.K cs l (.ife c a b)) := by
  refine PS.imp (ps_if hc ha hb) fun D σ H ⟨F, env, r, f⟩ => ?_
  unfold evS at f
  refine sstepT r f fun t env' F' H' m g => ?_
  cases t with
  | true => exact iteT ⟨F', env', m.rel, Fs.move m g⟩
  | false => exact iteF ⟨F', env', m.rel, Fs.move m g⟩
theorem wh_ps (g : GoodS P G k cs W N sc X) {c : E} {b : Ss} {c' : Expr} {body : List Stmt} {pos : Pos} (hc : PT X c' (tT W X.K cs (clOf P k) c)) (hb : PSs X body (tSPs P k W X.K cs l b)) : PS X (.While c' body [] pos) (tSP P k W X.K cs l (.wh c b)) := by
  refine PS.imp (ps_while g.pass hc hb) fun D σ H ⟨F, env, r, f⟩ => ?_
  unfold evS at f
  refine ⟨fun n σ' H' => ∃ F' env', Rel X.K cs F' H' env' σ' ∧ Fs W X.K cs l D (whL (fun env1 => (evE (clOf P k) c env1).bl) (fun env1 => evSs (clOf P k) P.isa b env1) n env') F' H' env' σ', ⟨most, F, env, r, f⟩, ?_⟩
  rintro n σ1 H1 ⟨F1, env1, r1, f1⟩
  cases n with
  | zero => exact f1.elim
  | succ n =>
    unfold whL at f1
    refine sstepT r1 f1 fun t env2 F2 H2 m2 g2 => ?_
    have g2 := Fs.move m2 g2
    cases t with
    | false => exact iteF (g2 _ _ _ (Mv.refl m2.rel))
    | true =>
      refine iteT ⟨fun σ' H' => ∃ F' env', Rel X.K cs F' H' env' σ' ∧ Fs W X.K cs l D (whL (fun env1 => (evE (clOf P k) c env1).bl) (fun env1 => evSs (clOf P k) P.isa b env1) n env') F' H' env' σ', fun σ' H' z => ⟨n, Nat.lt_succ_self _, z⟩, F2, env2, m2.rel, ?_⟩
      refine (Fit.bind g2).mono (fun _ _ z => z) fun fl e z => ?_
      cases fl with
      | nx => exact fun σ' F' H' m => ⟨F', e, m.rel, Fs.move m z⟩
      | ct => exact fun σ' F' H' m => ⟨F', e, m.rel, Fs.move m z⟩
      | bk => exact z
      | rt t => exact z
/-- a for -/
theorem fo_ps (g : GoodS P G k cs W N sc X) {p : Pt} {it : AM.It} {b : Ss} {tg iter : Expr} {body : List Stmt} {pos : Pos} (hi : PI X tg iter (wI W X.K cs (clOf P k) it)) (hf : ∀ env x, foldedSetIterable iter env x = pure x) (hg : PG X tg (gPt X.K p))
    (hb : PSs X body (tSPs P k W X.K cs (p.slots ++ b.asg) b)) (hl : ∀ i ∈ p.slots ++ b.asg, i ∈ l) : PS X (.For tg iter body [] pos) (tSP P k W X.K cs l (.fo p it b)) := by
  refine PS.imp (ps_for g.pass g.calm hi hg hb (hf X.env)) fun D σ H ⟨F, env, r, f⟩ => ?_
  unfold evS at f
  split at f
  · exact f.elim
  rename_i hap
  have hap : apart it.lk (p.slots ++ b.asg) = true := hap
  have ap : ∀ i ∈ it.lk, i ∉ p.slots ++ b.asg := fun i hi z => by
    have := List.all_eq_true.mp hap i hi
    simp only [Bool.not_eq_true', List.contains_eq_mem, decide_eq_false_iff_not] at this
    exact this z
  refine ⟨F, env, r, f.bind.mono (fun _ _ z => z.at (Mv.refl r)) fun ds env0 g F1 H1 J Cn Fp x1 r1 jo cn nfp => ?_⟩
  have m1 : Mv X.K cs F H env σ l F1 H1 env0 σ := Mv.one x1 r1
  have g := Fs.move m1 g
  obtain ⟨rw1, ow1⟩ := r1.wiped (own := []) (l := it.lk) (fun _ z => by cases z)
  have wz : L2.wipe σ [] = σ := rfl
  rw [wz] at rw1 ow1
  let Wv : Nat → Nat → L2.St → Hp → Prop := fun i m σ' H' => m = ds.length - i ∧ i ≤ ds.length ∧ ∃ F' env', Mv X.K cs F1 H1 (wipeE env0 it.lk) σ (p.slots ++ b.asg) F' H' env' σ' ∧ Cn F' H' ∧ env'.length = env0.length ∧
    Fs W X.K cs l D ((forL (fun d env1 => match bindPt p d env1 with
        | none => .no
        | some env2 => evSs (clOf P k) P.isa b env2) (ds.drop i) env').bind fun f env9 => match f with
          | .rt t => .ok (.rt t) (backE env9 env0 it.lk)
          | _ => .ok .nx (backE env9 env0 it.lk)) F1 H1 env0 σ
  have low : ∀ q, Own (wipeE env0 it.lk) σ q → Own env0 σ q := fun q z => by
    obtain ⟨i, t, _, e, o, s⟩ := ow1 q z
    exact ⟨i, t, e, o, s⟩
  -- an end of the loop, back in the outer slots
  have back : ∀ {F9 H9 : Hp} {env9 : AM.Env} {σ9 : L2.St}, Mv X.K cs F1 H1 (wipeE env0 it.lk) σ (p.slots ++ b.asg) F9 H9 env9 σ9 → Mv X.K cs F1 H1 env0 σ l F9 H9 (backE env9 env0 it.lk) σ9 := fun {F9 H9 env9 σ9} m9 => by
    obtain ⟨rb, xb⟩ := back_state (l := it.lk) (σT := σ9) r1 m9.ext ow1 m9.rel (by rw [r1.len, m9.rel.len, m9.same.1]) rfl (fun i hi => m9.same.2 i (ap i hi)) fun _ _ => rfl
    exact ⟨xb, rb, m9.same.mono hl⟩
  have backX : ∀ {F9 H9 : Hp} {env9 : AM.Env} {σ9 : L2.St}, Mv X.K cs F1 H1 (wipeE env0 it.lk) σ (p.slots ++ b.asg) F9 H9 env9 σ9 → Mv X.K cs F1 H1 env0 σ l F9 H9 env9 σ9 := fun {F9 H9 env9 σ9} m9 =>
    ⟨⟨m9.ext.fr, fun q o e n => m9.ext.keep q o e fun z => n (low q z), fun q a b => (m9.ext.new q a b).imp (low q) id, fun q z => (m9.ext.own q z).imp (low q) id⟩, m9.rel, m9.same.mono hl⟩
  refine ⟨Wv, ⟨ds.length, by simp, Nat.zero_le _, F1, wipeE env0 it.lk, Mv.refl rw1, cn, wipeE_length _, g⟩, ?_⟩
  rintro i m σ' H' ⟨rfl, hi, F', env', m', cn', le, g'⟩
  by_cases hlt : i < ds.length
  · right
    refine ⟨jo.go F' H' i cn' hlt, fun σ'' H'' => Wv (i + 1) (ds.length - (i + 1)) σ'' H'', fun σ'' H'' w => ⟨_, by omega, w⟩, fun x H2 y => ?_⟩
    have hdr : ds.drop i = ds[i] :: ds.drop (i + 1) := List.drop_eq_getElem_cons hlt
    rw [hdr] at g'
    unfold forL at g'
    have g1 := g'.bind.bind
    obtain ⟨F2, r2, x2, cn2, rd⟩ := jo.yld F' H' env' σ' i x H2 ds[i] cn' m'.rel y (List.getElem?_eq_getElem hlt)
    have m2' : Mv X.K cs F1 H1 (wipeE env0 it.lk) σ (p.slots ++ b.asg) F2 H2 env' σ' := m'.trans (Mv.one x2 r2)
    cases eb : bindPt p ds[i] env' with
    | none => rw [eb] at g1; exact g1.elim
    | some env2 =>
      rw [eb] at g1
      refine bind_run p eb r2 rd fun σ2 r3 o3 s3 l3 => ?_
      have m2 : Mv X.K cs F1 H1 (wipeE env0 it.lk) σ (p.slots ++ b.asg) F2 H2 env2 σ2 := ⟨⟨m2'.ext.fr, m2'.ext.keep, m2'.ext.new, fun q z => m2'.ext.own q (o3 q z)⟩, r3, m2'.same.trans ⟨l3, fun j hj => s3 j fun z => hj (List.mem_append_left _ z)⟩⟩
      have nofp : ∀ q, Fp q → ¬ Own env2 σ2 q := fun q hq z => by
        rcases m2.ext.own q z with u | u
        · obtain ⟨i, t, hi, e, o, s⟩ := ow1 q u
          exact nfp q hq ⟨i, t, by rw [wipeE_out hi]; exact e, o, s⟩
        · exact jo.live F1 H1 q cn hq u
      have next : ∀ {e : AM.Env}, Fit (forL (fun d env1 => match bindPt p d env1 with
        | none => .no
        | some env2 => evSs (clOf P k) P.isa b env2) (ds.drop (i + 1)) e) (WxS W X.K cs F1 H1 env0 σ l) (fun f env9 => Fit (match f with
          | .rt t => R.ok (.rt t) (backE env9 env0 it.lk)
          | _ => .ok .nx (backE env9 env0 it.lk)) (WxS W X.K cs F1 H1 env0 σ l) (KsOf X.K cs F1 H1 env0 σ l D)) → ∀ σ'' F'' H'', Mv X.K cs F2 H2 env2 σ2 (p.slots ++ b.asg) F'' H'' e σ'' → Wv (i + 1) (ds.length - (i + 1)) σ'' H'' := fun {e} z σ'' F'' H'' mv =>
        ⟨rfl, hlt, F'', e, m2.trans mv, jo.keep _ _ _ _ _ _ cn2 mv.ext nofp, by rw [mv.rel.len, mv.same.1, m2.same.1, r1.len], Fit.unbind z⟩
      refine ⟨F2, env2, r3, g1.mono (fun x e z cl d σ'' F'' H'' mv rx => z cl d σ'' F'' H'' (backX (m2.trans mv)) rx) fun fl e z => ?_⟩
      cases fl with
      | nx => exact next z
      | ct => exact next z
      | bk => exact fun σ'' F'' H'' mv => z σ'' F'' H'' (back (m2.trans mv))
      | rt t =>
          refine fun v σ'' F'' H'' mv rt fr => z v σ'' F'' H'' (back (m2.trans mv)) rt fun o q eq => ?_
          obtain ⟨a1, a2⟩ := fr o q eq
          have a3 := m2.ext.back a2
          refine ⟨fun ⟨j, u, ej, oj, sj⟩ => ?_, a3.imp (low q) id⟩
          by_cases hj : j ∈ it.lk
          · have hlt2 : j < e.length := by
              have := (List.getElem?_eq_some_iff.mp ej).1
              rw [backE_length] at this
              exact this
            rw [backE_in hj hlt2] at ej
            have e0 := getD_some (Option.some.inj ej)
            have s0 : σ[j]? = some (some (.ref q)) := by rw [← (m2.trans mv).same.2 j (ap j hj)]; exact sj
            rcases a3 with z | z
            · obtain ⟨i2, t2, hi2, e2, o2, s2⟩ := ow1 q z
              exact hi2 ((r1.sep i2 j t2 u q e2 e0 o2 oj s2 s0) ▸ hj)
            · exact r1.live ⟨j, u, e0, oj, s0⟩ z
          · rw [backE_out hj] at ej
            exact a1 ⟨j, u, ej, oj, sj⟩
  · left
    have e : i = ds.length := by omega
    subst e
    refine ⟨jo.stop F' H' _ cn' (Nat.le_refl _), ?_⟩
    rw [List.drop_length] at g'
    exact g' σ' F' H' (back m')
end
end AM

set_option maxHeartbeats 8000000
/-! statements: errors, suites, all together -/
namespace AM
open PySem PySem.Spec PyProof.Rows L2
section
variable {P : Tx} {G : Ck} {k : Nat} {cs : Cst} {W : WX} {N : List Str} {sc : Scope} {X : Cx} {l : List Nat}

/-- X() -/
theorem pmk_own0 {C : Addr} {bmB : List Value} {B newId initId : String} {x : Str} {p pos : Pos} (F : ExcBaseFacts B newId initId bmB) (q : PySem.W.excIn X.K C bmB newId = true) (gC : X.mg x = some (.ref C)) (kC : PySem.W.keepIn X.K (.ref C) = true) (r : Raises X (.ref C)) (hg : Gl X x)
    (hdb : (x == ("__debug__" : Str)) = false) : PMk X (.Call (.Name x p) [] [] pos) (fun _ H Q => Q (.ref C) none H) := by
  intro pins s σ H Q I h
  refine wpAny_Call_Name_kw (ld_glob I hg gC ?_ hdb)
  refine PySem.W.callWith_K0 I.kIn kC ?_
  show wpAny _ _ (call (.ref C) []) _ _ _
  obtain ⟨bm, N, nm, qn, bs, hdct, sn, sub, ab, col, dd, k0, k1, k2, k3, k5, mN, hC, hN, hni, T⟩ := exc_obj I.kIn q
  refine wpAny_call_exc_subT F T hC hN hni (fun h' e hm => ?_) (by show 0 ≤ sizeLine; omega)
  exact mk_of I hm r h (I.hok.gone hm.new)
theorem rais_ps (g : GoodS P G k cs W N sc X) {c : Nat} {x : Str} {p cpos pos : Pos} (h1 : G.xc[c]? = some x) (h2 : c ∈ G.xp) (h3 : glB sc x = true) : PS X (.Raise (some (.Call (.Name x p) [] [] cpos)) none pos) (tSP P k W X.K cs l (.rais c .nil)) := by
  obtain ⟨g1, g2, g3⟩ := glB_of h3
  obtain ⟨a, hc, hm⟩ := g.cls c x h1
  obtain ⟨hk, hr, bmB, B, newId, initId, FF, he⟩ := g.mkx c x a h1 h2 hc
  refine PS.imp (ps_raise g.calm g.takes (pmk_own0 FF he hm hk hr (g.toGood.gl g1) g2)) fun D σ H ⟨F, env, r, f⟩ => ?_
  unfold evS evEs at f
  exact f (.ref a) none σ F H (Mv.refl r) ⟨a, hc, rfl, rfl, rfl⟩

/-- one behind another -/
theorem cons_ps {C : Cl} {isa : Nat → Nat → Bool} {K : PySem.W.Frag} {s : S} {ss : Ss} {st : Stmt} {sts : List Stmt} (h1 : PS X st (tS W K cs C isa l s)) (h2 : PSs X sts (tSs W K cs C isa l ss)) : PSs X (st :: sts) (tSs W K cs C isa l (.cons s ss)) := by
  refine PSs.imp (pss_cons h1 h2) fun D σ H ⟨F, env, r, f⟩ => ?_
  unfold evSs at f
  refine ⟨F, env, r, f.bind.mono (fun _ _ z => z) fun fl e z => ?_⟩
  cases fl with
  | nx => exact fun σ' F' H' m => ⟨F', e, m.rel, Fs.move m z⟩
  | ct => exact z
  | bk => exact z
  | rt t => exact z
theorem nil_ps {C : Cl} {isa : Nat → Nat → Bool} {K : PySem.W.Frag} : PSs X [] (tSs W K cs C isa l .nil) := PSs.imp pss_nil fun D σ H ⟨F, env, r, f⟩ => by
  unfold evSs at f
  exact f σ F H (Mv.refl r)
theorem frz_ps {C : Cl} {isa : Nat → Nat → Bool} {K : PySem.W.Frag} {i : Nat} {ss : Ss} {sts : List Stmt} (h : PSs X sts (tSs W K cs C isa l ss)) : PSs X sts (tSs W K cs C isa l (.cons (.frz i) ss)) := by
  refine PSs.imp h fun D σ H ⟨F, env, r, f⟩ => ?_
  unfold evSs evS at f
  split at f
  · rename_i t e0
    obtain ⟨F', m⟩ := r.freeze (l := l) (getD_some e0)
    exact ⟨F', _, m.rel, Fs.move m f⟩
  · exact f.elim

/-! ### suites -/
theorem cs_ok {C : Cl} : ∀ {es : Es} {xs : List Expr}, chkC es xs = true → es.slots.all Option.isNone = true ∧ EsOk X W cs C es xs
  | .nil, [], _ => ⟨rfl, .nil⟩
  | .nil, _ :: _, h => by simp [chkC] at h
  | .cons e es, [], h => by cases e <;> simp [chkC] at h
  | .cons e es, x :: xs, h => by
    unfold chkC at h
    split at h
    · rename_i e1 e2; cases e1
    · rename_i e1 e2
      cases e1; cases e2
      rw [Bool.and_eq_true] at h
      obtain ⟨a, b⟩ := cs_ok h.2
      exact ⟨by simpa [Es.slots, slotOf] using a, .cons (cst_pe h.1) (fun _ _ => rfl) b⟩
    · cases h
theorem su1_ps {C : Cl} {isa : Nat → Nat → Bool} {s : S} {st : Stmt} (hN : X.N = N) (nd : N.Nodup) (hsc : X.env.scope = sc) (h : chkSu1 N sc s st = true) (hl : ∀ i ∈ s.asg, i ∈ l) : PS X st (tS W X.K cs C isa l s) := by
  unfold chkSu1 at h
  split at h
  · simp only [Bool.and_eq_true, decide_eq_true_eq] at h
    obtain ⟨⟨h1, h2⟩, h3⟩ := h
    have hx := h2
    rw [← hsc] at hx
    exact PS.imp (ps_set (by rw [hN]; exact nd) (by rw [hN]; exact h1) (.inl hx) (cst_pe (W := W) (cs := cs) (C := C) h3) rfl (.inr hx)) fun D σ H ⟨F, env, r, f⟩ => set_read (hl _ (by simp [S.asg])) r f
  · simp only [Bool.and_eq_true, decide_eq_true_eq] at h
    obtain ⟨⟨h1, h2⟩, h3⟩ := h
    have hx := h2
    rw [← hsc] at hx
    obtain ⟨a, b⟩ := cs_ok (X := X) (W := W) (cs := cs) (C := C) h3
    exact PS.imp (ps_set (by rw [hN]; exact nd) (by rw [hN]; exact h1) (.inl hx) (lst_pe a b) rfl (.inr hx)) fun D σ H ⟨F, env, r, f⟩ => set_read (hl _ (by simp [S.asg])) r f
  · refine PS.imp (ps_ret (cst_pe (W := W) (cs := cs) (C := C) h)) fun D σ H ⟨F, env, r, f⟩ => ?_
    unfold evS at f
    exact sstep r f fun t env' v F' H' p g => g v σ F' H' (Mv.one p.ext p.rel) p.rep p.fresh
  · exact PS.imp ps_retN fun D σ H ⟨F, env, r, f⟩ => by
      unfold evS at f
      exact f _ σ F H (Mv.refl r) .non fun z => by cases z
  · exact PS.imp ps_pass fun D σ H ⟨F, env, r, f⟩ => by
      unfold evS at f
      exact f σ F H (Mv.refl r)
  · exact PS.imp ps_continue fun D σ H ⟨F, env, r, f⟩ => by
      unfold evS at f
      exact f σ F H (Mv.refl r)
  · exact PS.imp ps_break fun D σ H ⟨F, env, r, f⟩ => by
      unfold evS at f
      exact f σ F H (Mv.refl r)
  · cases h
theorem su_ps {C : Cl} {isa : Nat → Nat → Bool} (hN : X.N = N) (nd : N.Nodup) (hsc : X.env.scope = sc) : ∀ (ss : Ss) (sts : List Stmt), chkSu N sc ss sts = true → (∀ i ∈ ss.asg, i ∈ l) → PSs X sts (tSs W X.K cs C isa l ss)
  | .nil, [], _, _ => nil_ps
  | .nil, _ :: _, h, _ => by simp [chkSu] at h
  | .cons _ _, [], h, _ => by simp [chkSu] at h
  | .cons s ss, st :: sts, h, hl => by
    simp only [chkSu, Bool.and_eq_true] at h
    exact cons_ps (su1_ps hN nd hsc h.1 fun i hi => hl i (by simp [Ss.asg, hi])) (su_ps hN nd hsc ss sts h.2 fun i hi => hl i (by simp [Ss.asg, hi]))

/-! ### try -/
/-- the clauses' readings -/
def hdl (P : Tx) (k : Nat) (W : WX) (K : PySem.W.Frag) (cs : Cst) (l : List Nat) : Hs → List (Value × (Addr → Value → Option Addr → TS))
  | .nil => []
  | .cons c _ b hs => (.ref ((cs c).getD 0), fun _ _ _ => tSPs P k W K cs l b) :: hdl P k W K cs l hs
theorem hdl_ok (g : GoodS P G k cs W N sc X) : ∀ (hs : Hs) (hds : List ExceptHandler), chkHs G N sc hs hds = true → (∀ i ∈ hs.asg, i ∈ l) → HdsOk X hds (hdl P k W X.K cs l hs)
  | .nil, hds, h, hl => by
    simp only [chkHs, List.isEmpty_iff] at h
    subst h
    exact .nil
  | .cons c o b hs, hds, h, hl => by
    unfold chkHs at h
    split at h
    · simp only [Bool.and_eq_true, decide_eq_true_eq] at h
      obtain ⟨⟨⟨h1, h2⟩, h3⟩, h4⟩ := h
      obtain ⟨a, hc, hm⟩ := g.cls _ _ h1
      obtain ⟨g1, g2, g3⟩ := glB_of h2
      have e : (cs c).getD 0 = a := by rw [hc]; rfl
      refine .cons ⟨g.toGood.gl g1, g2, .inl (by rw [e]; exact hm)⟩ (fun a' oe cl d pn hz hv => ?_) (hdl_ok g hs _ h4 fun i hi => hl i (by simp [Hs.asg, hi]))
      exact su_ps (X := X.suite a' ((a', oe) :: pn)) g.hN g.nd g.hsc b _ h3 fun i hi => hl i (by simp [Hs.asg, hi])
    · cases h
theorem hdl_read (g : GoodS P G k cs W N sc X) {D : Ends} {x : AM.X} {cl : Value} {d : Option Addr} {F H : Hp} {env : AM.Env} {σ : L2.St} (rx : RepX X.K cs F H x cl d) (r : Rel X.K cs F H env σ) : ∀ (hs : Hs) (hds : List ExceptHandler), chkHs G N sc hs hds = true → Fs W X.K cs l D (evHs (clOf P k) P.isa hs x env) F H env σ → wMany X.K W D (hdl P k W X.K cs l hs) cl d σ H
  | .nil, hds, h, f => f cl d σ F H (Mv.refl r) rx
  | .cons c o b hs, hds, h, f => by
    unfold chkHs at h
    split at h
    · simp only [Bool.and_eq_true, decide_eq_true_eq] at h
      obtain ⟨⟨⟨h1, h2⟩, h3⟩, h4⟩ := h
      obtain ⟨a2, hc, hm⟩ := g.cls _ _ h1
      obtain ⟨a, ha, rfl, _⟩ := id rx
      have e : (cs c).getD 0 = a2 := by rw [hc]; rfl
      have q := g.exm x.c c a a2 _ ha h1 hc
      unfold evHs at f
      refine ⟨P.isa x.c c, by rw [e]; exact q, fun z a' _ => ?_, fun z => ?_⟩
      · rw [z] at f
        exact ⟨F, env, r, f⟩
      · rw [z] at f
        exact hdl_read g rx r hs _ h4 f
    · cases h
theorem tr_ps (g : GoodS P G k cs W N sc X) {b : Ss} {hs : Hs} {body : List Stmt} {h0 : ExceptHandler} {hds : List ExceptHandler} {pos : Pos} (h : chkHs G N sc hs (h0 :: hds) = true) (hl : ∀ i ∈ hs.asg, i ∈ l)
    (hb : ∀ X' W', GoodS P G k cs W' N sc X' → PSs X' body (tSPs P k W' X'.K cs l b)) : PS X (.Try body (h0 :: hds) [] [] pos) (tSP P k W X.K cs l (.tr b hs)) := by
  refine PS.imp (ps_try_many (tb := fun W' => tSPs P k W' X.K cs l b) g.stk g.frm g.takes (fun W' pn xe tk pa => hb (X.tr pn xe) W' { g with takes := tk, pass := pa }) (hdl_ok g hs _ h hl)) fun D σ H ⟨F, env, r, f⟩ => ?_
  refine ⟨F, env, r, ?_⟩
  unfold evS at f
  unfold Fs at f ⊢
  cases e : evSs (clOf P k) P.isa b env with
  | ok fl env' => rw [e] at f; exact f
  | ex x env' =>
    rw [e] at f
    exact fun cl d σ' F' H' m rx => hdl_read g rx m.rel hs _ h (Fs.move m f)
  | no => rw [e] at f; exact f
end
end AM

set_option maxHeartbeats 8000000
/-! statements: all together -/
namespace AM
open PySem PySem.Spec PyProof.Rows L2
section
variable {P : Tx} {G : Ck} {k : Nat} {cs : Cst}
def SndS (P : Tx) (G : Ck) (k : Nat) (cs : Cst) (s : S) : Prop := ∀ (N : List Str) (sc : Scope) (X : Cx) (W : WX) (st : Stmt) (l : List Nat), GoodS P G k cs W N sc X → chkS G N sc s st = true → (∀ i ∈ s.asg, i ∈ l) → PS X st (tSP P k W X.K cs l s)
def SndSs (P : Tx) (G : Ck) (k : Nat) (cs : Cst) (ss : Ss) : Prop := ∀ (N : List Str) (sc : Scope) (X : Cx) (W : WX) (sts : List Stmt) (l : List Nat), GoodS P G k cs W N sc X → chkSs G N sc ss sts = true → (∀ i ∈ ss.asg, i ∈ l) → PSs X sts (tSPs P k W X.K cs l ss)

theorem GoodS.tgt {W : WX} {N : List Str} {sc : Scope} {X : Cx} (g : GoodS P G k cs W N sc X) : ∀ x, locB sc x = true → Loc X.env.scope x ∧ (X.fn x = true ∨ X.env.scope.names.lookup x = some .local) := fun x h => by
  refine ⟨by rw [g.hsc]; exact locB_of h, ?_⟩
  rw [g.hsc]
  exact g.fnl x h
theorem pe_of {W : WX} {N : List Str} {sc : Scope} {X : Cx} (g : GoodS P G k cs W N sc X) {e : E} {x : Expr} (h : chkE G N sc false e x = true) : PE X x (tE W X.K cs (clOf P k) e) := (snd_E e false N sc X W x g.toGood h).1 rfl
theorem pt_of {W : WX} {N : List Str} {sc : Scope} {X : Cx} (g : GoodS P G k cs W N sc X) {e : E} {x : Expr} (h : chkE G N sc true e x = true) : PT X x (tT W X.K cs (clOf P k) e) := (snd_E e true N sc X W x g.toGood h).2.1 rfl
theorem set_all {W : WX} {N : List Str} {sc : Scope} {X : Cx} {l : List Nat} (g : GoodS P G k cs W N sc X) {i : Nat} {e : E} {x : Str} {px pos : Pos} {v : Expr} (h1 : N[i]? = some x) (h2 : locB sc x = true) (h3 : chkE G N sc false e v = true)
    (h4 : setV v = true) (hl : i ∈ l) : PS X (.Assign [.Name x px] v pos) (tSP P k W X.K cs l (.set i e)) := by
  have plain : (swapsWith v (some (.Name x px)) pos.line X.env = pure false) → PS X (.Assign [.Name x px] v pos) (tSP P k W X.K cs l (.set i e)) := fun hs => set_ps g h1 h2 (g.tgt x h2).2 (pe_of g h3) hs hl
  cases v with
  | ListComp elt gs scope lp =>
    cases hsw : lcSw sc x px scope lp with
    | true =>
      unfold chkE at h3
      split at h3
      all_goals try (cases ‹(Expr.ListComp elt gs scope lp : Expr) = _›)
      all_goals first | (cases h3; done) | skip
      · simp only [Bool.and_eq_true, decide_eq_true_eq] at h3
        obtain ⟨⟨⟨⟨⟨⟨a1, a2⟩, a3⟩, a4⟩, a5⟩, a6⟩, a7⟩ := h3
        obtain ⟨pi, pf⟩ := snd_I _ N sc X W _ _ g.toGood a5 a3
        exact lc_ps g h1 hsw hl a1 a2 a4 pi pf (fun X' g' => (snd_O _).1 N _ X' _ _ g' a6) fun X' g' => (snd_E _ false N _ X' _ _ g' a7).1 rfl
    | false =>
      refine plain ?_
      have kk : (X.env.kindOf x == some .local) = decide (sc.names.lookup x = some .local) := by
        show (X.env.scope.names.lookup x == some .local) = _
        rw [g.hsc]
        cases sc.names.lookup x with
        | none => rfl
        | some o => cases o <;> rfl
      have hb : X.env.blockKind = .function := by unfold PySem.Env.blockKind; rw [g.hsc, g.knd]; rfl
      unfold lcSw at hsw
      unfold swapsWith
      simp only [hb, kk]
      exact congrArg (pure : Bool → Sem Bool) hsw
  | SetComp _ _ _ _ => cases h4
  | DictComp _ _ _ _ _ => cases h4
  | _ => exact plain (sw_false rfl)

mutual
theorem snd_S : ∀ s : S, SndS P G k cs s
  | .set i e => fun N sc X W st l g h hl => by
    unfold chkS at h
    split at h
    all_goals try (cases ‹(S.set i e : S) = _›)
    all_goals first | (cases h; done) | skip
    simp only [Bool.and_eq_true, decide_eq_true_eq] at h
    obtain ⟨⟨⟨h1, h2⟩, h3⟩, h4⟩ := h
    exact set_all g h1 h2 h3 h4 (hl _ (by simp [S.asg]))
  | .unp p e => fun N sc X W st l g h hl => by
    unfold chkS at h
    split at h
    all_goals try (cases ‹(S.unp p e : S) = _›)
    all_goals first | (cases h; done) | skip
    simp only [Bool.and_eq_true, Bool.not_eq_true'] at h
    obtain ⟨⟨⟨⟨⟨h1, h2⟩, h3⟩, h4⟩, h5⟩, h6⟩ := h
    exact unp_ps g h1 h2 g.tgt h3 h4 (pe_of g h6) fun i hi => hl i (by simpa [S.asg] using hi)
  | .par i j a b => fun N sc X W st l g h hl => by
    unfold chkS at h
    split at h
    all_goals try (cases ‹(S.par i j a b : S) = _›)
    all_goals first | (cases h; done) | skip
    simp only [Bool.and_eq_true, decide_eq_true_eq, Bool.not_eq_true', beq_eq_false_iff_ne] at h
    obtain ⟨⟨⟨⟨⟨h1, h2⟩, h3⟩, h4⟩, h5⟩, h6⟩ := h
    exact par_ps g h1 h2 h3 h4 (pe_of g h5) (pe_of g h6) (notStar h5) (notStar h6) (hl _ (by simp [S.asg])) (hl _ (by simp [S.asg]))
  | .setIx i a v => fun N sc X W st l g h hl => by
    unfold chkS at h
    split at h
    all_goals try (cases ‹(S.setIx i a v : S) = _›)
    all_goals first | (cases h; done) | skip
    simp only [Bool.and_eq_true, Bool.not_eq_true'] at h
    obtain ⟨⟨⟨⟨h1, h2⟩, h3⟩, h4⟩, h5⟩ := h
    exact setIx_ps g h1 h2 h3 (pe_of g h4) (pe_of g h5)
  | .aug i o e => fun N sc X W st l g h hl => by
    unfold chkS at h
    split at h
    all_goals try (cases ‹(S.aug i o e : S) = _›)
    all_goals first | (cases h; done) | skip
    simp only [Bool.and_eq_true, decide_eq_true_eq] at h
    obtain ⟨⟨⟨⟨h1, h2⟩, h3⟩, h4⟩, h5⟩ := h
    subst h3
    refine aug_ps g h1 h2 (g.tgt _ h2).2 (pe_of g h5) (hl _ (by simp [S.asg])) ?_
    split at h4
    · exact .inl rfl
    · exact .inr rfl
    · cases h4
  | .exp e => fun N sc X W st l g h hl => by
    unfold chkS at h
    split at h
    all_goals try (cases ‹(S.exp e : S) = _›)
    all_goals first | (cases h; done) | skip
    simp only [Bool.and_eq_true, Bool.not_eq_true'] at h
    exact exp_ps g h.1 (pe_of g h.2)
  | .app i e => fun N sc X W st l g h hl => by
    unfold chkS at h
    split at h
    all_goals try (cases ‹(S.app i e : S) = _›)
    all_goals first | (cases h; done) | skip
    simp only [Bool.and_eq_true, decide_eq_true_eq] at h
    obtain ⟨⟨⟨⟨h1, h2⟩, h3⟩, h4⟩, h5⟩ := h
    subst h2
    exact app_ps g h1 (pe_of g h5) (notStar h5) h3
  | .ife c a b => fun N sc X W st l g h hl => by
    have ia : SndSs P G k cs a := snd_Ss a
    have ib : SndSs P G k cs b := snd_Ss b
    unfold chkS at h
    split at h
    all_goals try (cases ‹(S.ife c a b : S) = _›)
    all_goals first | (cases h; done) | skip
    simp only [Bool.and_eq_true] at h
    obtain ⟨⟨h1, h2⟩, h3⟩ := h
    exact ife_ps (pt_of g h1) (ia N sc X W _ l g h2 fun i hi => hl i (by simp [S.asg, hi])) (ib N sc X W _ l g h3 fun i hi => hl i (by simp [S.asg, hi]))
  | .fo p it b => fun N sc X W st l g h hl => by
    have ib : SndSs P G k cs b := snd_Ss b
    unfold chkS at h
    split at h
    all_goals try (cases ‹(S.fo p it b : S) = _›)
    all_goals first | (cases h; done) | skip
    simp only [Bool.and_eq_true] at h
    obtain ⟨⟨⟨h1, h2⟩, h3⟩, h4⟩ := h
    obtain ⟨pi, pf⟩ := snd_I it N sc X W _ _ g.toGood h3 h2
    exact fo_ps g pi pf (pt_pg g.hN g.nd g.calm g.tgt p _ h1) (ib N sc X W _ _ g h4 fun i hi => List.mem_append_right _ hi) fun i hi => hl i (by simpa [S.asg] using hi)
  | .wh c b => fun N sc X W st l g h hl => by
    have ib : SndSs P G k cs b := snd_Ss b
    unfold chkS at h
    split at h
    all_goals try (cases ‹(S.wh c b : S) = _›)
    all_goals first | (cases h; done) | skip
    simp only [Bool.and_eq_true] at h
    exact wh_ps g (pt_of g h.1) (ib N sc X W _ l g h.2 fun i hi => hl i (by simpa [S.asg] using hi))
  | .ret e => fun N sc X W st l g h hl => by
    unfold chkS at h
    split at h
    all_goals try (cases ‹(S.ret e : S) = _›)
    all_goals first | (cases h; done) | skip
    exact ret_ps g (pe_of g h)
  | .mov i => fun N sc X W st l g h hl => by
    unfold chkS at h
    split at h
    all_goals try (cases ‹(S.mov i : S) = _›)
    all_goals first | (cases h; done) | skip
    exact mov_ps g h
  | .retN => fun N sc X W st l g h hl => by
    unfold chkS at h
    split at h
    all_goals try (cases ‹(S.retN : S) = _›)
    all_goals first | (cases h; done) | skip
    exact retN_ps
  | .brk => fun N sc X W st l g h hl => by
    unfold chkS at h
    split at h
    all_goals try (cases ‹(S.brk : S) = _›)
    all_goals first | (cases h; done) | skip
    exact brk_ps
  | .cnt => fun N sc X W st l g h hl => by
    unfold chkS at h
    split at h
    all_goals try (cases ‹(S.cnt : S) = _›)
    all_goals first | (cases h; done) | skip
    exact cnt_ps
  | .pass => fun N sc X W st l g h hl => by
    unfold chkS at h
    split at h
    all_goals try (cases ‹(S.pass : S) = _›)
    all_goals first | (cases h; done) | skip
    exact pass_ps
  | .rais c es => fun N sc X W st l g h hl => by
    unfold chkS at h
    split at h
    all_goals try (cases ‹(S.rais c es : S) = _›)
    all_goals first | (cases h; done) | skip
    simp only [Bool.and_eq_true, decide_eq_true_eq] at h
    obtain ⟨⟨h1, h2⟩, h3⟩ := h
    exact rais_ps g h1 h2 h3
  | .tr b hs => fun N sc X W st l g h hl => by
    have ib : SndSs P G k cs b := snd_Ss b
    unfold chkS at h
    split at h
    all_goals try (cases ‹(S.tr b hs : S) = _›)
    all_goals first | (cases h; done) | skip
    simp only [Bool.and_eq_true, Bool.not_eq_true'] at h
    obtain ⟨⟨h1, h2⟩, h3⟩ := h
    rename_i body hds _
    cases hds with
    | nil => cases h1
    | cons h0 r => exact tr_ps g h3 (fun i hi => hl i (by simp [S.asg, hi])) fun X' W' g' => ib N sc X' W' _ l g' h2 fun i hi => hl i (by simp [S.asg, hi])
  | .frz i => fun N sc X W st l g h hl => by
    simp [chkS] at h
theorem snd_Ss : ∀ ss : Ss, SndSs P G k cs ss
  | .nil => fun N sc X W sts l g h hl => by
    simp only [chkSs, List.isEmpty_iff] at h
    subst h
    exact nil_ps
  | .cons s ss => fun N sc X W sts l g h hl => by
    have i1 : SndS P G k cs s := snd_S s
    have i2 : SndSs P G k cs ss := snd_Ss ss
    unfold chkSs at h
    split at h
    · rename_i hz
      cases s <;> first | (cases hz; done) | skip
      exact frz_ps (i2 N sc X W _ l g h fun i hi => hl i (by simp [Ss.asg, hi]))
    · split at h
      · simp only [Bool.and_eq_true] at h
        exact cons_ps (i1 N sc X W _ l g h.1 fun i hi => hl i (by simp [Ss.asg, hi])) (i2 N sc X W _ l g h.2 fun i hi => hl i (by simp [Ss.asg, hi]))
      · cases h
end
end
end AM

set_option maxHeartbeats 8000000
/-! a def keeps what the evaluator promises -/
namespace AM
open PySem PySem.Spec PyProof.Rows L2

theorem zip_lookup {α : Type} : ∀ {ps : List Str} {us : List α}, us.length = ps.length → ps.Nodup → ps.filterMap (fun n => ((ps.zip us).lookup n).map (n, ·)) = ps.zip us := by
  have gen : ∀ (ps : List Str) (us : List α) (pre : List (Str × α)), us.length = ps.length → ps.Nodup → (∀ q ∈ pre, q.1 ∉ ps) → ps.filterMap (fun n => ((pre ++ ps.zip us).lookup n).map (n, ·)) = ps.zip us := by
    intro ps
    induction ps with
    | nil => intro us pre h _ _; rfl
    | cons p ps ih =>
      intro us pre h nd hp
      cases us with
      | nil => simp at h
      | cons u us =>
        rw [List.nodup_cons] at nd
        have lk : (pre ++ (p, u) :: ps.zip us).lookup p = some u := by
          clear ih h
          induction pre with
          | nil => simp
          | cons q pre ih2 =>
            rw [List.cons_append, List.lookup_cons]
            have : (p == q.1) = false := by
              rw [beq_eq_false_iff_ne]
              intro e
              exact hp q List.mem_cons_self (by rw [e]; exact List.mem_cons_self)
            rw [this]
            exact ih2 fun q' hq' => hp q' (List.mem_cons_of_mem _ hq')
        rw [List.zip_cons_cons, List.filterMap_cons, lk]
        simp only [Option.map_some]
        have := ih us (pre ++ [(p, u)]) (by simpa using h) nd.2 fun q hq => by
          rcases List.mem_append.mp hq with z | z
          · exact fun y => hp q z (List.mem_cons_of_mem _ y)
          · have : q = (p, u) := by simpa using z
            rw [this]
            exact nd.1
        rw [List.append_assoc] at this
        rw [show pre ++ (p, u) :: ps.zip us = pre ++ ([(p, u)] ++ ps.zip us) from rfl, this]
  intro ps us h nd
  exact gen ps us [] h nd (fun q hq => by cases hq)
theorem zip_isSome {α : Type} {ps : List Str} {us : List α} (h : us.length = ps.length) {n : Str} (hn : n ∈ ps) : ((ps.zip us).lookup n).isSome = true := by
  induction ps generalizing us with
  | nil => cases hn
  | cons p ps ih =>
    cases us with
    | nil => simp at h
    | cons u us =>
      rw [List.zip_cons_cons, List.lookup_cons]
      cases e : n == p with
      | true => rfl
      | false =>
        refine ih (by simpa using h) ?_
        rcases List.mem_cons.mp hn with z | z
        · subst z; simp at e
        · exact z
theorem lookup_memS {α : Type} : ∀ {l : List (Str × α)} {j : Str} {o : α}, l.lookup j = some o → (j, o) ∈ l
  | [], _, _, h => by cases h
  | (a, b) :: l, j, o, h => by
    rw [List.lookup_cons] at h
    split at h
    · rename_i e
      cases h
      have : j = a := by simpa using e
      subst this
      exact List.mem_cons_self
    · exact List.mem_cons_of_mem _ (lookup_memS h)
theorem bind_plain {fd : FuncData} {ps : List Str} {us : List Value} (h1 : fd.params.posonlyargs = []) (h2 : fd.params.args.map (·.arg) = ps) (h3 : fd.params.vararg = none) (h4 : fd.params.kwonlyargs = []) (h5 : fd.params.kwarg = none) (hd : fd.defaults = .none) (nd : ps.Nodup) (hl : us.length = ps.length) :
    bindArgs fd ⟨us, []⟩ = pure (ps.zip us) := by
  have miss : (ps.take ps.length).filter (fun n => ((ps.zip us).lookup n).isNone) = [] := by
    rw [List.take_length, List.filter_eq_nil_iff]
    intro n hn
    have := zip_isSome hl hn
    cases e : (ps.zip us).lookup n with
    | none => rw [e] at this; cases this
    | some _ => simp
  have sq : seqItems? fd.defaults = pure none := by rw [hd]; rfl
  unfold bindArgs
  simp only [h1, h2, h3, h4, h5, sq, List.map_nil, List.nil_append, List.append_nil, List.forIn_nil, pure_bind, hl]
  simp [miss, zip_lookup hl nd]
  intro x hx hn
  exfalso
  obtain ⟨v, e⟩ := Option.isSome_iff_exists.mp (zip_isSome hl hx)
  exact hn v (lookup_memS e)
end AM

set_option maxHeartbeats 8000000
/-! objects: the maker's body, then its fields -/
namespace AM
open PySem PySem.Spec PyProof.Rows L2
/-- self.x = e, one behind another -/
def chkFl (G : Ck) (N : List Str) (sc : Scope) : List (Str × E) → List Stmt → Bool
  | [], [] => true
  | p :: fl, .Assign [.Attribute (.Name z _) y _] v _ :: r => decide (p.1 = y) && nameB N sc 0 z && !isComp v && chkE G N sc false p.2 v && chkFl G N sc fl r
  | _, _ => false
section
variable {P : Tx} {G : Ck} {k : Nat} {cs : Cst}
/-- a body with more behind it -/
theorem apnd_ps {N : List Str} {sc : Scope} {X : Cx} {W : WX} {l : List Nat} {post : List Stmt} {kont : TS} (g : GoodS P G k cs W N sc X) (hk : PSs X post kont) : ∀ (ss : Ss) (sts : List Stmt), chkSs G N sc ss sts = true → (∀ i ∈ ss.asg, i ∈ l) →
    PSs X (sts ++ post) (fun D σ H => tSPs P k W X.K cs l ss { D with nx := kont D } σ H)
  | .nil, sts, h, hl => by
    simp only [chkSs, List.isEmpty_iff] at h
    subst h
    rw [List.nil_append]
    refine PSs.imp hk fun D σ H ⟨F, env, r, f⟩ => ?_
    unfold evSs at f
    exact f σ F H (Mv.refl r)
  | .cons s ss, sts, h, hl => by
    unfold chkSs at h
    split at h
    · rename_i hz
      cases s <;> first | (cases hz; done) | skip
      refine PSs.imp (apnd_ps g hk ss sts h fun i hi => hl i (by simp [Ss.asg, hi])) fun D σ H ⟨F, env, r, f⟩ => ?_
      unfold evSs evS at f
      split at f
      · rename_i t e0
        obtain ⟨F', m⟩ := r.freeze (l := l) (getD_some e0)
        exact ⟨F', _, m.rel, Fs.move m f⟩
      · exact f.elim
    · split at h
      · rename_i st r0
        simp only [Bool.and_eq_true] at h
        rw [List.cons_append]
        refine PSs.imp (pss_cons (snd_S s N sc X W st l g h.1 fun i hi => hl i (by simp [Ss.asg, hi])) (apnd_ps g hk ss r0 h.2 fun i hi => hl i (by simp [Ss.asg, hi]))) fun D σ H ⟨F, env, r, f⟩ => ?_
        unfold evSs at f
        refine ⟨F, env, r, f.bind.mono (fun _ _ z => z) fun fl e z => ?_⟩
        cases fl with
        | nx => exact fun σ' F' H' m => ⟨F', e, m.rel, Fs.move m z⟩
        | ct => exact z
        | bk => exact z
        | rt t => exact z
      · cases h
end
section
variable {K : PySem.W.Frag} {cs : Cst} {F H F' H' : Hp} {env env' : AM.Env} {σ : L2.St} {x C dx : Addr}
def OX (x : Addr) (env : AM.Env) (σ : L2.St) : Addr → Prop := fun p => Own env σ p ∨ p = x
theorem Ext.orX (e : Ext F H (Own env σ) F' H' (Own env' σ)) : Ext F H (OX x env σ) F' H' (OX x env' σ) :=
  ⟨e.fr, fun p o h n => e.keep p o h fun z => n (.inl z), fun p a b => (e.new p a b).imp .inl id, fun p h => by
    rcases h with h | h
    · exact (e.own p h).imp .inl id
    · exact .inl (.inr h)⟩
theorem not_new (e : Ext F H (Own env σ) F' H' (Own env' σ)) (fx : F x = none) (n : ¬ Own env σ x) (hx : H x ≠ none) : F' x = none := by
  cases q : F' x with
  | none => rfl
  | some o =>
    rcases e.new x (by rw [q]; intro z; cases z) fx with z | z
    · exact absurd z n
    · exact absurd z hx
theorem Rel.updX {o : HO} (r : Rel K cs F H env σ) (fx : F x = none) (n : ¬ Own env σ x) : Rel K cs F (upd H x o) env σ := by
  have ne : ∀ p u, F p = some u → p ≠ x := fun p u h z => by subst z; rw [fx] at h; cases h
  refine ⟨r.len, ⟨fun p u h => ?_, fun p u h => ?_⟩, fun i t e => ?_, r.sep⟩
  · have hp : p ≠ x := by
      rcases h with h | ⟨o', h⟩
      · exact ne p _ h
      · exact ne p _ h
    have := r.fin.1 p u h
    unfold Rd at this ⊢
    rw [upd_ne hp]
    exact this
  · rw [upd_ne (ne p u h)]
    exact r.fin.2 p u h
  · obtain ⟨v, e1, h⟩ := r.slot i t e
    refine ⟨v, e1, ?_⟩
    cases t with
    | d d => exact h
    | l ds =>
      obtain ⟨q, vs, e2, h1, h2, h3⟩ := h
      have hq : q ≠ x := fun z => n ⟨i, .l ds, e, rfl, by rw [e1, e2, z]⟩
      exact ⟨q, vs, e2, by rw [upd_ne hq]; exact h1, h2, h3⟩
    | m _ => exact h.elim
    | o _ _ => exact h.elim
/-- an object at x is being filled -/
structure Mid (K : PySem.W.Frag) (cs : Cst) (x C dx : Addr) (F H : Hp) (env : AM.Env) (σ : L2.St) (fs : List (Str × V)) : Prop where
  rel : Rel K cs F H env σ
  self : σ[0]? = some (some (.ref x))
  at_ : H x = some (.ins C dx fs)
  fx : F x = none
  own : ¬ Own env σ x
theorem putF_new {f : Str} {v : V} : ∀ {fs : List (Str × V)}, f ∉ fs.map (·.1) → putF f v fs = fs ++ [(f, v)]
  | [], _ => rfl
  | p :: fs, h => by
    rw [List.map_cons, List.mem_cons, not_or] at h
    have := putF_new (f := f) (v := v) (fs := fs) h.2
    obtain ⟨a, b⟩ := p
    show (if a = f then (a, v) :: fs else (a, b) :: putF f v fs) = (a, b) :: (fs ++ [(f, v)])
    rw [if_neg (fun z => h.1 z.symm), this]
end
section
variable {P : Tx} {G : Ck} {k : Nat} {cs : Cst}
def tFl (W : WX) (K : PySem.W.Frag) (cs : Cst) (Cl : AM.Cl) (x C dx : Addr) (fl : List (Str × E)) : TS := fun D σ H => ∃ F env fs ds, Mid K cs x C dx F H env σ fs ∧ RepDs K cs F ds (fs.map (·.2)) ∧ fs.length + fl.length ≤ 100 ∧ (fs.map (·.1) ++ fl.map (·.1)).Nodup ∧ (∀ q ∈ fl, NoAttr K C q.1) ∧ L2.Cls K C ∧
  Fit (evF Cl fl env ds) (fun e env' => ∀ cl d F' H', Ext F H (OX x env σ) F' H' (OX x env' σ) → Rel K cs F' H' env' σ → F' x = none → ¬ Own env' σ x → RepX K cs F' H' e cl d → W cl d σ H')
    (fun out env' => ∀ F' H' fs', Ext F H (OX x env σ) F' H' (OX x env' σ) → Mid K cs x C dx F' H' env' σ fs' → fs'.map (·.1) = fs.map (·.1) ++ fl.map (·.1) → RepDs K cs F' out (fs'.map (·.2)) → D.nx σ H')
theorem not_own {F H F' H' : Hp} {env env' : AM.Env} {σ : L2.St} {x : Addr} (e : Ext F H (Own env σ) F' H' (Own env' σ)) (n : ¬ Own env σ x) (hx : H x ≠ none) : ¬ Own env' σ x := fun z => by
  rcases e.own x z with q | q
  · exact n q
  · exact hx q
theorem flds_ps {N : List Str} {sc : Scope} {X : Cx} {W : WX} {x C dx : Addr} (g : GoodS P G k cs W N sc X) : ∀ (fl : List (Str × E)) (sts : List Stmt), chkFl G N sc fl sts = true → PSs X sts (tFl W X.K cs (clOf P k) x C dx fl)
  | [], [], _ => PSs.imp pss_nil fun D σ H ⟨F, env, fs, ds, m, rd, _, _, _, _, f⟩ => f F H fs (Ext.refl _ _ _) m (by simp) rd
  | [], _ :: _, h => by simp [chkFl] at h
  | _ :: _, [], h => by simp [chkFl] at h
  | p :: fl, st :: r, h => by
    unfold chkFl at h
    split at h
    · rename_i e1 e2; cases e1
    · rename_i e1 e2
      cases e1; cases e2
      simp only [Bool.and_eq_true, decide_eq_true_eq, Bool.not_eq_true'] at h
      obtain ⟨⟨⟨⟨h1, h2⟩, h3⟩, h4⟩, h5⟩ := h
      subst h1
      refine PSs.imp (pss_cons (ps_fld (pe_name g.toGood h2) (pe_of g h4) (sw_false h3)) (flds_ps (x := x) (C := C) (dx := dx) g fl _ h5)) fun D σ H ⟨F, env, fs, ds, m, rd, hl, nd, na, hc, f⟩ => ?_
      have hx : H x ≠ none := by rw [m.at_]; intro z; cases z
      unfold evF at f
      rw [List.length_cons] at hl
      refine ⟨F, env, m.rel, f.bind.mono (fun e env' z cl d F' H' xe r' rx => ?_) fun t env1 z v F1 H1 pp => ?_⟩
      · exact z cl d F' H' xe.orX r' (not_new xe m.fx m.own hx) (not_own xe m.own hx) rx
      · obtain ⟨F2, p2, s⟩ := pp.kept
        have hx1 : H1 x = some (.ins C dx fs) := p2.ext.keep x _ m.at_ m.own
        have fx2 := not_new p2.ext m.fx m.own hx
        have no2 := not_own p2.ext m.own hx
        have hn : p.1 ∉ fs.map (·.1) := fun hm => by
          have := (List.nodup_append.mp nd).2.2 _ hm _ List.mem_cons_self
          exact this rfl
        refine ⟨.ref x, m.self, x, C, dx, fs, rfl, hx1, hc, na _ List.mem_cons_self, by omega, ?_⟩
        rw [putF_new hn]
        have e12 : Ext F H (OX x env σ) F2 (upd H1 x (.ins C dx (fs ++ [(p.1, v)]))) (OX x env1 σ) := by
          have e0 := p2.ext.orX (x := x)
          refine ⟨e0.fr, fun q o h n => ?_, e0.new, e0.own⟩
          have hq : q ≠ x := fun z => n (.inr z)
          rw [upd_ne hq]
          exact e0.keep q o h n
        refine ⟨F2, env1, fs ++ [(p.1, v)], ds ++ [t.snap], ⟨p2.rel.updX fx2 no2, m.self, upd_same, fx2, no2⟩, ?_, ?_, ?_, fun q hq => na q (List.mem_cons_of_mem _ hq), hc, ?_⟩
        · rw [List.map_append]
          exact (rd.mono p2.ext.fr).append (.cons p2.rep .nil)
        · rw [List.length_append, List.length_singleton]; omega
        · rw [List.map_append, List.append_assoc]; exact nd
        · refine z.mono (fun e env' y cl d F' H' xe r' fx' no' rx => y cl d F' H' (e12.trans xe) r' fx' no' rx) fun out env' y F' H' fs' xe m' hn' rd' => y F' H' fs' (e12.trans xe) m' ?_ rd'
          rw [hn', List.map_append, List.append_assoc]
          rfl
    · cases h
end
end AM

set_option maxHeartbeats 8000000
/-! defs: from the head's facts to what each def promises -/
namespace AM
open PySem PySem.Spec PyProof.Rows L2
section
variable {K : PySem.W.Frag} {cs : Cst} {F H F' H' : Hp} {env env' : AM.Env} {σ σ' : L2.St}

/-- slots behind: not yet stored -/
theorem own_pad {m : Nat} (hl : env.length = σ.length) {p : Addr} : Own (env ++ List.replicate m none) (σ ++ List.replicate m none) p ↔ Own env σ p := by
  constructor
  · rintro ⟨i, t, e, o, s⟩
    by_cases hi : i < env.length
    · rw [List.getElem?_append_left hi] at e
      rw [List.getElem?_append_left (by omega)] at s
      exact ⟨i, t, e, o, s⟩
    · rw [List.getElem?_append_right (by omega), List.getElem?_replicate] at e
      split at e <;> cases e
  · rintro ⟨i, t, e, o, s⟩
    have hi : i < env.length := (List.getElem?_eq_some_iff.mp e).1
    exact ⟨i, t, by rw [List.getElem?_append_left hi]; exact e, o, by rw [List.getElem?_append_left (by omega)]; exact s⟩
theorem Rel.pad {m : Nat} (r : Rel K cs F H env σ) : Rel K cs F H (env ++ List.replicate m none) (σ ++ List.replicate m none) := by
  have back : ∀ (i : Nat) (t : T), (env ++ List.replicate m none)[i]? = some (some t) → env[i]? = some (some t) ∧ (σ ++ List.replicate m none)[i]? = σ[i]? := fun i t e => by
    by_cases hi : i < env.length
    · rw [List.getElem?_append_left hi] at e
      exact ⟨e, List.getElem?_append_left (by rw [← r.len]; exact hi)⟩
    · rw [List.getElem?_append_right (by omega), List.getElem?_replicate] at e
      split at e <;> cases e
  refine ⟨by simp [r.len], r.fin, fun i t e => ?_, fun i j t u p e1 e2 o1 o2 s1 s2 => ?_⟩
  · obtain ⟨a, b⟩ := back i t e
    rw [b]
    exact r.slot i t a
  · obtain ⟨a, b⟩ := back i t e1
    obtain ⟨c, d⟩ := back j u e2
    rw [b] at s1
    rw [d] at s2
    exact r.sep i j t u p a c o1 o2 s1 s2
theorem outs_get {io : List Nat} {j : Nat} {o : Option T} (h : (io.zip (outsOf io env)).lookup j = some o) : j ∈ io ∧ o = env.getD j none := by
  have hm := lookup_mem h
  have : ∀ (l : List Nat), (j, o) ∈ l.zip (l.map fun j => env.getD j none) → j ∈ l ∧ o = env.getD j none := by
    intro l
    induction l with
    | nil => intro h; simp at h
    | cons a l ih =>
      intro h
      rw [List.map_cons, List.zip_cons_cons] at h
      rcases List.mem_cons.mp h with e | e
      · cases e
        exact ⟨List.mem_cons_self, rfl⟩
      · exact ⟨List.mem_cons_of_mem _ (ih e).1, (ih e).2⟩
  exact this io hm
/-- the callee's end, as its caller sees it -/
theorem out_state {vs : List V} {io l : List Nat} {n : Nat} (hn : n = vs.length) (ap : apart io l = true) (r : Rel K cs F' H' env' σ') (sm : Same l (vs.map some ++ List.replicate n' none) σ') :
    Rel K cs F' H' (spreadE n io (outsOf io env')) (vs.map some) ∧ ∀ p, Own (spreadE n io (outsOf io env')) (vs.map some) p → Own env' σ' p := by
  have cls : ∀ (i : Nat) (t : T), (spreadE n io (outsOf io env'))[i]? = some (some t) → env'[i]? = some (some t) ∧ σ'[i]? = (vs.map some)[i]? := fun i t e => by
    obtain ⟨h1, h2⟩ := spreadE_some e
    obtain ⟨h3, h4⟩ := outs_get h2
    have hi : i ∉ l := fun z => by
      have := List.all_eq_true.mp ap i h3
      simp only [Bool.not_eq_true', List.contains_eq_mem, decide_eq_false_iff_not] at this
      exact this z
    refine ⟨getD_some h4.symm, ?_⟩
    rw [sm.2 i hi, List.getElem?_append_left (by rw [List.length_map, ← hn]; exact h1)]
  refine ⟨⟨by rw [spreadE_length, hn, List.length_map], r.fin, fun i t e => ?_, fun i j t u p e1 e2 o1 o2 s1 s2 => ?_⟩, fun p ⟨i, t, e, o, s⟩ => ?_⟩
  · obtain ⟨a, b⟩ := cls i t e
    rw [← b]
    exact r.slot i t a
  · obtain ⟨a, b⟩ := cls i t e1
    obtain ⟨c, d⟩ := cls j u e2
    rw [← b] at s1
    rw [← d] at s2
    exact r.sep i j t u p a c o1 o2 s1 s2
  · obtain ⟨a, b⟩ := cls i t e
    exact ⟨i, t, a, o, by rw [b]; exact s⟩
end

/-- a def of the text: its name, its class, its slots' names, its statement -/
structure Dn where
  x : Str
  cl : Option Str
  pr : Bool
  N : List Str
  st : Stmt
def Dn.key (d : Dn) : Str := match d.cl with
  | none => d.x
  | some c => if d.x = "__init__" then c else ""
def Dn.at_ (d : Dn) : Str × Option Str := match d.cl with
  | none => (d.x, none)
  | some c => (c, some d.x)
def Dn.qual (d : Dn) : Str := match d.cl with
  | none => d.x
  | some c => c ++ ("." ++ d.x)
def Dn.dd (d : Dn) : He.DefD := ⟨d.at_, d.x, d.qual, defArgs d.st, defBody d.st, defScope d.st, [], []⟩
/-- a property's getter -/
def getA (K : PySem.W.Frag) (p : Addr) : Addr := match PySem.W.recIn K p "property" with
  | some (.ref g :: _) => g
  | _ => 0
def Dn.addr (K : PySem.W.Frag) (d : Dn) : Addr := if d.pr = true then getA K (He.fAd K d.at_) else He.fAd K d.at_
/-- a def by its place -/
def fnAt (K : PySem.W.Frag) (a : Addr) : He.FnW := match K.lookup a with
  | some ⟨_, _, .func ⟨a1, a2, a3, a4, a5, a6, a7, _, _, _, _, _, _, _, a15⟩, _⟩ => some (a1, a2, a3, a4, a5, a6, a7, a15)
  | _ => none
def fnOkAt (K : PySem.W.Frag) (a : Addr) (qual : Str) : Bool := PySem.W.keepIn K (.ref a) && match K.lookup a with
  | some ⟨_, _, .func fd, _⟩ => PySem.W.codeIn K fd.code qual && (He.dflB K fd.defaults [] && He.kwdB K fd.kwdefaults [])
  | _ => false
theorem funD_at {K : PySem.W.Frag} {a : Addr} {d : Dn} (e : fnAt K a = d.dd.val) (c : fnOkAt K a d.qual = true) : ∃ fd, FunD K d.x d.qual (defArgs d.st) (defBody d.st) (defScope d.st) [] [] a fd := by
  unfold fnOkAt at c
  rw [Bool.and_eq_true] at c
  obtain ⟨kp, c⟩ := c
  unfold fnAt at e
  split at c
  · rename_i oc od fd osl hl
    rw [hl] at e
    obtain ⟨b1, b2, b3, b4, b5, b6, b7, b8, b9, b10, b11, b12, b13, b14, b15⟩ := fd
    simp only [He.DefD.val, Dn.dd, Option.some.injEq, Prod.mk.injEq] at e
    obtain ⟨rfl, rfl, rfl, rfl, rfl, rfl, rfl, rfl⟩ := e
    simp only [Bool.and_eq_true] at c
    exact ⟨_, ⟨⟨oc, od, b8, b9, b10, b11, b12, b13, b14, osl, rfl, hl, c.1, He.dflB_ok c.2.1, He.kwdB_ok c.2.2⟩, kp⟩⟩
  · cases c
def plainArgs (a : Arguments) (ps : List Str) : Bool := a.posonlyargs.isEmpty && decide (a.args.map (·.arg) = ps) && a.vararg.isNone && a.kwonlyargs.isEmpty && a.kwarg.isNone
def scB (N P : List Str) (sc : Scope) : Bool :=
  kindF sc && !sc.isCoroutine && !sc.isGenerator && decide N.Nodup && decide (N.take P.length = P) && P.all (fun x => locB sc x) && sc.names.all (fun y => match y.2 with | .free => false | _ => true)
theorem scB_ok {N P : List Str} {sc : Scope} (h : scB N P sc = true) : FnScope N P sc := by
  unfold scB at h
  simp only [Bool.and_eq_true, Bool.not_eq_true', decide_eq_true_eq, List.all_eq_true] at h
  obtain ⟨⟨⟨⟨⟨⟨h1, h2⟩, h3⟩, h4⟩, h5⟩, h6⟩, h7⟩ := h
  refine ⟨?_, h2, h3, h4, h5, fun x hx => locB_of (h6 x hx), fun y hy e => ?_⟩
  · unfold kindF at h1
    split at h1
    · assumption
    · cases h1
  · have := h7 y hy
    rw [e] at this
    cases this
def chkD (G : Ck) (fn : Fn) (d : Dn) : Bool := match fn.obj with
  | none => (!fn.low && d.cl.isNone && !d.pr || fn.low && d.cl.isSome && decide (d.x ≠ "__init__")) && plainArgs (defArgs d.st) (d.N.take fn.np) && decide (d.N.length = fn.n) && decide (fn.np ≤ fn.n) && scB d.N (d.N.take fn.np) (defScope d.st) && chkSs G d.N (defScope d.st) fn.body (defBody d.st)
  | some p => !d.pr && decide (d.x = "__init__") && decide (d.cl = (G.xc ++ G.oc)[p.1]?) && d.cl.isSome && (match d.cl with | some c => decide (c ∈ G.oc) | none => false) && plainArgs (defArgs d.st) (d.N.take (fn.np + 1)) && decide (d.N.length = fn.n) && decide (fn.np + 1 ≤ fn.n) && scB d.N (d.N.take (fn.np + 1)) (defScope d.st) &&
    (chkSs G d.N (defScope d.st) fn.body ((defBody d.st).take ((defBody d.st).length - p.2.length)) && chkFl G d.N (defScope d.st) p.2 ((defBody d.st).drop ((defBody d.st).length - p.2.length)) && decide ((p.2.map (·.1)).Nodup) && decide (p.2.length ≤ 100) && !fn.body.asg.contains 0)
/-- the whole text -/
structure Txt where
  P : Tx
  G : Ck
  ds : List Dn
  gi : List (Str × Int)
def exmF (isa : Nat → Nat → Bool) (xa xc : List Str) : List He.Fa := (xa.zipIdx).flatMap fun p => (xc.zipIdx).map fun q => .exm p.1 q.1 (isa p.2 q.2)
/-- the classes by their numbers: those of errors, those of objects -/
def Txt.cn (t : Txt) (c : Nat) : Option Str := (t.G.xc ++ t.G.oc)[c]?
/-- no class has a field's name -/
def noatF (t : Txt) : List He.Fa := (t.P.fns.filterMap (·.obj)).flatMap fun p => match t.cn p.1 with
  | some x => p.2.map fun q => .noat x q.1
  | none => []
def Txt.fa (t : Txt) : List He.Fa := (t.G.nm.filter fun x => decide (x ≠ ("" : Str))).map .glo ++ t.G.fr.map .free ++ t.gi.map (fun p => .int p.1 p.2) ++ (t.G.xc ++ t.G.oc).map .glo ++ (t.G.xp.filterMap fun c => t.G.xc[c]?.map .exc) ++ exmF t.P.isa (t.G.xc ++ t.G.oc) t.G.xc ++ (t.G.oc.map .cls ++ t.G.oc.map .mkr ++ noatF t)
def Txt.fn (t : Txt) : List He.DefD := (t.ds.filter fun d => !d.pr).map Dn.dd
def Txt.gt (t : Txt) : List Dn := t.ds.filter fun d => d.pr
/-- the own == of a class stands there -/
def eqB (t : Txt) (q : Nat × Nat) (K : PySem.W.Frag) : Bool := match t.cn q.1, t.ds[q.2]? with
  | some x, some d => decide (PySem.W.findIn K (.ref (He.ga K x)) "__eq__" = some (some (.ref (d.addr K)))) && PySem.W.isFn K (.ref (d.addr K))
  | _, _ => false
/-- the property of a class stands there -/
def prB (t : Txt) (q : Nat × Nat × Str) (K : PySem.W.Frag) : Bool := match t.cn q.1, t.ds[q.2.1]? with
  | some x, some d => d.pr && decide (d.at_ = (x, some q.2.2)) && decide (PySem.W.findIn K (.ref (He.ga K x)) q.2.2 = some (some (.ref (He.fAd K d.at_)))) && decide (PySem.W.specialIn K (.ref (He.fAd K d.at_)) "__get__" = some (some (.builtin "property.__get__"))) &&
    decide (PySem.W.takesIn K (.ref (He.fAd K d.at_)) = some true) && (match PySem.W.recIn K (He.fAd K d.at_) "property" with | some (.ref _ :: _) => true | _ => false)
  | _, _ => false
def Txt.qs (t : Txt) : List (PySem.W.Frag → Bool) := t.G.oc.map (fun x K => otB K (He.ga K x)) ++ t.G.eqs.map (eqB t) ++ t.G.pr.map (prB t) ++ t.gt.map fun d K => fnOkAt K (d.addr K) d.qual
/-- what the head says of K -/
structure SaysX (t : Txt) (K : PySem.W.Frag) : Prop where
  main : He.SaysD t.fa t.fn K
  more : (t.qs.all fun q => q K) = true
  gets : (t.gt.map fun d => fnAt K (d.addr K)) = t.gt.map fun d => d.dd.val
def Txt.cs (t : Txt) (K : PySem.W.Frag) : Cst := fun c => (t.cn c).map fun x => He.ga K x
/-- the built-in types by their names -/
def tyOf (x : Str) : Option String := if x = ("int" : Str) then some "int" else if x = ("str" : Str) then some "str" else if x = ("bool" : Str) then some "bool" else if x = ("tuple" : Str) then some "tuple" else if x = ("list" : Str) then some "list" else if x = ("dict" : Str) then some "dict" else none
theorem tyOf_ok {x : Str} {n : String} (h : tyOf x = some n) : bootBuiltins x = some (.type n) ∧ x ≠ "__name__" := by
  unfold tyOf at h
  split at h
  · rename_i e; subst e; cases h; exact ⟨by decide +kernel, by decide +kernel⟩
  split at h
  · rename_i e; subst e; cases h; exact ⟨by decide +kernel, by decide +kernel⟩
  split at h
  · rename_i e; subst e; cases h; exact ⟨by decide +kernel, by decide +kernel⟩
  split at h
  · rename_i e; subst e; cases h; exact ⟨by decide +kernel, by decide +kernel⟩
  split at h
  · rename_i e; subst e; cases h; exact ⟨by decide +kernel, by decide +kernel⟩
  split at h
  · rename_i e; subst e; cases h; exact ⟨by decide +kernel, by decide +kernel⟩
  · cases h
/-- the module's constants: its ints, the built-in types -/
def globF (gi : List (Str × Int)) (fr : List Str) (x : Str) : Option D := match gi.lookup x with
  | some i => some (.int i)
  | none => if x ∈ fr then (tyOf x).map .ty else none
/-- the classes among the names -/
def globC (gi : List (Str × Int)) (fr : List Str) (cl : List (Str × Nat)) (x : Str) : Option D := match cl.lookup x with
  | some c => some (.cls c)
  | none => globF gi fr x
def lowB (t : Txt) (n : Nat) : Bool := match t.P.fns[n]? with
  | some fn => fn.obj.isNone && fn.low
  | none => false
structure Txt.Ok (t : Txt) : Prop where
  nm : t.G.nm = t.ds.map Dn.key
  len : t.P.fns.length = t.ds.length
  chk : ∀ (f : Nat) (fn : Fn) (d : Dn), t.P.fns[f]? = some fn → t.ds[f]? = some d → chkD t.G fn d = true
  glob : ∃ cl : List (Str × Nat), t.P.glob = globC t.gi t.G.fr cl ∧ ∀ q ∈ cl, t.cn q.2 = some q.1 ∧ q.1 ∈ t.G.oc
  eqs : ∀ q ∈ t.G.eqs, lowB t q.2 = true
  prs : ∀ q ∈ t.G.pr, lowB t q.2.1 = true
def Txt.okB (t : Txt) : Bool := decide (t.G.nm = t.ds.map Dn.key) && (t.P.fns.length == t.ds.length) && ((t.P.fns.zip t.ds).all fun p => chkD t.G p.1 p.2) && (t.G.eqs.all fun q => lowB t q.2) && (t.G.pr.all fun q => lowB t q.2.1)
theorem Txt.ok_by {t : Txt} {cl : List (Str × Nat)} (h : t.okB = true) (hg : t.P.glob = globC t.gi t.G.fr cl) (hc : (cl.all fun q => decide (t.cn q.2 = some q.1) && decide (q.1 ∈ t.G.oc)) = true) : t.Ok := by
  unfold Txt.okB at h
  simp only [Bool.and_eq_true, decide_eq_true_eq, beq_iff_eq] at h
  obtain ⟨⟨⟨⟨h1, h2⟩, h3⟩, h4⟩, h5⟩ := h
  refine ⟨h1, h2, fun f fn d e1 e2 => ?_, ⟨cl, hg, fun q hq => ?_⟩, List.all_eq_true.mp h4, List.all_eq_true.mp h5⟩
  · have : (fn, d) ∈ t.P.fns.zip t.ds := List.mem_of_getElem? (i := f) (by rw [List.getElem?_zip_eq_some]; exact ⟨e1, e2⟩)
    exact List.all_eq_true.mp h3 _ this
  · have := List.all_eq_true.mp hc q hq
    rw [Bool.and_eq_true, decide_eq_true_eq, decide_eq_true_eq] at this
    exact this

section
variable {t : Txt} {K : PySem.W.Frag} {h : Heap} {mg : Str → Option Value} {prog : Program} {w : World} {base : Heap}
theorem says_mem {fa : List He.Fa} {fn : List He.DefD} (c : He.SaysD fa fn K) {f : He.Fa} (hf : f ∈ fa) : f.ok K = true := by
  obtain ⟨i, hi⟩ := List.getElem?_of_mem hf
  exact c.fact i hi
theorem qs_mem (c : SaysX t K) {q : PySem.W.Frag → Bool} (h : q ∈ t.qs) : q K = true := List.all_eq_true.mp c.more q h
theorem def_of (c : SaysX t K) {f : Nat} {d : Dn} (hd : t.ds[f]? = some d) : ∃ fd, FunD K d.x d.qual (defArgs d.st) (defBody d.st) (defScope d.st) [] [] (d.addr K) fd := by
  have hm := List.mem_of_getElem? hd
  unfold Dn.addr
  cases hp : d.pr with
  | false =>
    rw [if_neg Bool.false_ne_true]
    have : d.dd ∈ t.fn := List.mem_map.mpr ⟨d, List.mem_filter.mpr ⟨hm, by rw [hp]; rfl⟩, rfl⟩
    obtain ⟨i, hi⟩ := List.getElem?_of_mem this
    exact c.main.def_ i hi
  | true =>
    rw [if_pos rfl]
    have hg : d ∈ t.gt := List.mem_filter.mpr ⟨hm, hp⟩
    have e2 : d.addr K = getA K (He.fAd K d.at_) := by unfold Dn.addr; rw [if_pos hp]
    obtain ⟨i, hi⟩ := List.getElem?_of_mem hg
    have e := congrArg (fun l : List He.FnW => l[i]?) c.gets
    simp only [List.getElem?_map, hi, Option.map_some, Option.some.injEq] at e
    rw [e2] at e
    refine funD_at e ?_
    have := qs_mem c (q := fun K => fnOkAt K (d.addr K) d.qual) (by
      unfold Txt.qs
      exact List.mem_append_right _ (List.mem_map.mpr ⟨d, hg, rfl⟩))
    rw [← e2]
    exact this
theorem binds_at {ps : List Str} {d : Dn} {a : Addr} {fd : FuncData} (h1 : plainArgs (defArgs d.st) ps = true) (nd : ps.Nodup) (F : FunD K d.x d.qual (defArgs d.st) (defBody d.st) (defScope d.st) [] [] a fd) : ∀ (kV doc pm : Value) (an : Option Addr) (cdv ct : Value) (us : List Value), us.length = ps.length →
    bindArgs (PySem.W.fnOf d.x d.qual (defArgs d.st) (defBody d.st) (defScope d.st) .none kV doc pm an cdv ct) ⟨us, []⟩ = pure (ps.zip us) := by
  unfold plainArgs at h1
  simp only [Bool.and_eq_true, decide_eq_true_eq, List.isEmpty_iff, Option.isNone_iff_eq_none] at h1
  obtain ⟨⟨⟨⟨a1, a2⟩, a3⟩, a4⟩, a5⟩ := h1
  intro kV doc pm an cdv ct us hl
  exact bind_plain a1 a2 a3 a4 a5 rfl nd hl
/-- what the check says of a def -/
structure DefOk (G : Ck) (fn : Fn) (d : Dn) : Prop where
  kind : (fn.low = false ∧ d.cl = none ∧ d.pr = false) ∨ fn.low = true
  args : plainArgs (defArgs d.st) (d.N.take fn.np) = true
  len : d.N.length = fn.n
  np : fn.np ≤ fn.n
  sc : FnScope d.N (d.N.take fn.np) (defScope d.st)
  body : chkSs G d.N (defScope d.st) fn.body (defBody d.st) = true
  key : fn.low = true → d.key = ""
theorem defOk_of {G : Ck} {fn : Fn} {d : Dn} (ho : fn.obj = none) (h : chkD G fn d = true) : DefOk G fn d := by
  unfold chkD at h
  rw [ho] at h
  simp only [Bool.and_eq_true, Bool.or_eq_true, decide_eq_true_eq, Option.isNone_iff_eq_none, Bool.not_eq_true'] at h
  obtain ⟨⟨⟨⟨⟨h0, h1⟩, h2⟩, h3⟩, h4⟩, h5⟩ := h
  refine ⟨?_, h1, h2, h3, scB_ok h4, h5, fun hl => ?_⟩
  · rcases h0 with ⟨⟨a, b⟩, c⟩ | ⟨⟨a, _⟩, _⟩
    · exact .inl ⟨a, b, c⟩
    · exact .inr a
  · rcases h0 with ⟨⟨a, _⟩, _⟩ | ⟨⟨_, b⟩, c⟩
    · rw [hl] at a; cases a
    · obtain ⟨x, hx⟩ := Option.isSome_iff_exists.mp b
      unfold Dn.key
      rw [hx]
      exact if_neg c
/-- .. of a maker -/
structure IniOk (G : Ck) (fn : Fn) (d : Dn) (c : Nat) (fl : List (Str × E)) (x : Str) : Prop where
  pr : d.pr = false
  nm : d.x = "__init__"
  cl : d.cl = some x
  at_ : (G.xc ++ G.oc)[c]? = some x
  oc : x ∈ G.oc
  args : plainArgs (defArgs d.st) (d.N.take (fn.np + 1)) = true
  len : d.N.length = fn.n
  np : fn.np + 1 ≤ fn.n
  sc : FnScope d.N (d.N.take (fn.np + 1)) (defScope d.st)
  body : chkSs G d.N (defScope d.st) fn.body ((defBody d.st).take ((defBody d.st).length - fl.length)) = true
  flds : chkFl G d.N (defScope d.st) fl ((defBody d.st).drop ((defBody d.st).length - fl.length)) = true
  nd : (fl.map (·.1)).Nodup
  le : fl.length ≤ 100
  self : 0 ∉ fn.body.asg
theorem iniOk_of {G : Ck} {fn : Fn} {d : Dn} {c : Nat} {fl : List (Str × E)} (ho : fn.obj = some (c, fl)) (h : chkD G fn d = true) : ∃ x, IniOk G fn d c fl x := by
  unfold chkD at h
  rw [ho] at h
  simp only [Bool.and_eq_true, decide_eq_true_eq, Bool.not_eq_true', List.contains_eq_mem, decide_eq_false_iff_not] at h
  obtain ⟨⟨⟨⟨⟨⟨⟨⟨⟨h0, h1⟩, h2⟩, h3⟩, h4⟩, h5⟩, h6⟩, h7⟩, h8⟩, ⟨⟨⟨h9, ha⟩, hb⟩, hc⟩, hd⟩ := h
  obtain ⟨x, hx⟩ := Option.isSome_iff_exists.mp h3
  rw [hx] at h2 h4
  simp only [decide_eq_true_eq] at h4
  exact ⟨x, h0, h1, hx, h2.symm, h4, h5, h6, h7, scB_ok h8, h9, ha, hb, hc, hd⟩
theorem pad_eq {N : List Str} {vs : List V} {n np : Nat} (hN : N.length = n) (hv : vs.length = np) : L2.start N vs = vs.map some ++ List.replicate (n - np) none := by
  unfold L2.start
  rw [hN, hv]
theorem fa_nm {x : Str} (c : SaysX t K) (hx : x ≠ ("" : Str)) (h : x ∈ t.G.nm) : (He.Fa.glo x).ok K = true := says_mem c.main (f := .glo x) (by
  unfold Txt.fa
  simp only [List.mem_append, List.mem_map]
  exact .inl (.inl (.inl (.inl (.inl (.inl ⟨x, List.mem_filter.mpr ⟨h, decide_eq_true hx⟩, rfl⟩))))))
theorem fa_fr {x : Str} (c : SaysX t K) (h : x ∈ t.G.fr) : (He.Fa.free x).ok K = true := says_mem c.main (f := .free x) (by
  unfold Txt.fa
  simp only [List.mem_append, List.mem_map]
  exact .inl (.inl (.inl (.inl (.inl (.inr ⟨x, h, rfl⟩))))))
theorem fa_gi {x : Str} {i : Int} (c : SaysX t K) (h : (x, i) ∈ t.gi) : (He.Fa.int x i).ok K = true := says_mem c.main (f := .int x i) (by
  unfold Txt.fa
  simp only [List.mem_append, List.mem_map]
  exact .inl (.inl (.inl (.inl (.inr ⟨(x, i), h, rfl⟩)))))
theorem fa_xc {x : Str} (c : SaysX t K) (h : x ∈ t.G.xc) : (He.Fa.glo x).ok K = true := says_mem c.main (f := .glo x) (by
  unfold Txt.fa
  simp only [List.mem_append, List.mem_map]
  exact .inl (.inl (.inl (.inr ⟨x, .inl h, rfl⟩))))
theorem fa_oc {x : Str} (c : SaysX t K) (h : x ∈ t.G.oc) : (He.Fa.glo x).ok K = true := says_mem c.main (f := .glo x) (by
  unfold Txt.fa
  simp only [List.mem_append, List.mem_map]
  exact .inl (.inl (.inl (.inr ⟨x, .inr h, rfl⟩))))
theorem fa_xp {x : Str} {n : Nat} (c : SaysX t K) (h : n ∈ t.G.xp) (hx : t.G.xc[n]? = some x) : (He.Fa.exc x).ok K = true := says_mem c.main (f := .exc x) (by
  unfold Txt.fa
  simp only [List.mem_append, List.mem_filterMap]
  exact .inl (.inl (.inr ⟨n, h, by rw [hx]; rfl⟩)))
theorem fa_exm {x1 x2 : Str} {c1 c2 : Nat} (c : SaysX t K) (h1 : t.cn c1 = some x1) (h2 : t.G.xc[c2]? = some x2) : (He.Fa.exm x1 x2 (t.P.isa c1 c2)).ok K = true := says_mem c.main (f := .exm x1 x2 (t.P.isa c1 c2)) (by
  unfold Txt.fa exmF
  simp only [List.mem_append, List.mem_flatMap, List.mem_map]
  exact .inl (.inr ⟨(x1, c1), by rw [List.mem_zipIdx_iff_getElem?]; exact h1, (x2, c2), by rw [List.mem_zipIdx_iff_getElem?]; exact h2, rfl⟩))
theorem fa_cls {x : Str} (c : SaysX t K) (h : x ∈ t.G.oc) : (He.Fa.cls x).ok K = true := says_mem c.main (f := .cls x) (by
  unfold Txt.fa
  simp only [List.mem_append, List.mem_map]
  exact .inr (.inl (.inl ⟨x, h, rfl⟩)))
theorem fa_mkr {x : Str} (c : SaysX t K) (h : x ∈ t.G.oc) : (He.Fa.mkr x).ok K = true := says_mem c.main (f := .mkr x) (by
  unfold Txt.fa
  simp only [List.mem_append, List.mem_map]
  exact .inr (.inl (.inr ⟨x, h, rfl⟩)))
theorem fa_no {fn : Fn} {n : Nat} {fl : List (Str × E)} {x y : Str} (c : SaysX t K) (h : fn ∈ t.P.fns) (ho : fn.obj = some (n, fl)) (hx : t.cn n = some x) (hy : y ∈ fl.map (·.1)) : (He.Fa.noat x y).ok K = true := says_mem c.main (f := .noat x y) (by
  unfold Txt.fa noatF
  simp only [List.mem_append, List.mem_flatMap, List.mem_filterMap]
  refine .inr (.inr ⟨(n, fl), ⟨fn, h, ho⟩, ?_⟩)
  rw [hx]
  obtain ⟨q, hq, rfl⟩ := List.mem_map.mp hy
  exact List.mem_map.mpr ⟨q, hq, rfl⟩)

/-- the defs and makers up to k keep what the evaluator promises -/
def AllOk (t : Txt) (prog : Program) (w : World) (K : PySem.W.Frag) (mg : Str → Option Value) (base : Heap) (k : Nat) : Prop :=
  (∀ (f : Nat) (fn : Fn) (d : Dn) (fd : FuncData), t.P.fns[f]? = some fn → t.ds[f]? = some d → fn.obj = none → FunD K d.x d.qual (defArgs d.st) (defBody d.st) (defScope d.st) [] [] (d.addr K) fd →
    FnOk prog w K mg base (L2.CX prog w) k (d.addr K) fd (d.N.take fn.np) (spF t.P (if fn.low = true then k + 1 else k) f K (t.cs K) (d.N.take fn.np).length)) ∧
  ∀ (f : Nat) (fn : Fn) (d : Dn) (fd : FuncData) (n : Nat) (fl : List (Str × E)) (x : Str), t.P.fns[f]? = some fn → t.ds[f]? = some d → fn.obj = some (n, fl) → t.cn n = some x → FunD K d.x d.qual (defArgs d.st) (defBody d.st) (defScope d.st) [] [] (d.addr K) fd →
    FnOk prog w K mg base (L2.CX prog w) k (d.addr K) fd (d.N.take (fn.np + 1)) (spI t.P (k + 1) f K (t.cs K) (He.ga K x) fn.np)
/-- a method's def -/
theorem low_at (T : t.Ok) (c : SaysX t K) {c1 n : Nat} (h : lowB t n = true) (hx : ∃ x, t.cn c1 = some x) : ∃ (x : Str) (d : Dn) (fn : Fn) (fd : FuncData), t.cn c1 = some x ∧ t.ds[n]? = some d ∧ t.P.fns[n]? = some fn ∧ fn.obj = none ∧ fn.low = true ∧
    FunD K d.x d.qual (defArgs d.st) (defBody d.st) (defScope d.st) [] [] (d.addr K) fd ∧ DefOk t.G fn d := by
  obtain ⟨x, hx⟩ := hx
  unfold lowB at h
  split at h
  · rename_i fn hfn
    rw [Bool.and_eq_true, Option.isNone_iff_eq_none] at h
    have hl : n < t.ds.length := by rw [← T.len]; exact (List.getElem?_eq_some_iff.mp hfn).1
    have hd : t.ds[n]? = some t.ds[n] := List.getElem?_eq_getElem hl
    obtain ⟨fd, F'⟩ := def_of c hd
    exact ⟨x, _, fn, fd, hx, hd, hfn, h.1, h.2, F', defOk_of h.1 (T.chk n fn _ hfn hd)⟩
  · cases h
theorem good_at (T : t.Ok) (c : SaysX t K) (X : K.In h) (Gs : h.Ns mainGlobals mg) {k : Nat} (ih : AllOk t prog w K mg base k) (ihj : ∀ j, k = j + 1 → AllOk t prog w K mg base j) {N ps : List Str} {sc : Scope} (S : FnScope N ps sc) {qual : Str} {ad : Addr} {cdv : Value} {A : Around} {outer : List PySem.Env} {s : Shared} {H : Hp} {E : XK}
    (hr : Room k (A.deeper (envOfC qual sc s.heap.objs.size ad cdv))) : GoodS t.P t.G k (t.cs K) (fun cl d _ H' => E cl d H') N sc (cxOf (L2.CX prog w) prog w K mg base N qual sc ad cdv A outer s H E) :=
  { hN := rfl, hsc := rfl, nd := S.nd, calm := rfl, room := hr, takes := takes_of rfl rfl rfl rfl, pass := passes_of rfl, knd := S.kind, stk := rfl, frm := rfl, fnl := fun _ _ => .inl rfl
    fns := fun f' x hxe hx => by
      have hx0 := hx
      rw [T.nm, List.getElem?_map] at hx
      cases e : t.ds[f']? with
      | none => rw [e] at hx; cases hx
      | some d' =>
        rw [e] at hx
        have hx : d'.key = x := Option.some.inj hx
        have hlt : f' < t.P.fns.length := by rw [T.len]; exact (List.getElem?_eq_some_iff.mp e).1
        obtain ⟨fd', F'⟩ := def_of c e
        have e2 : t.P.fns[f']? = some t.P.fns[f'] := List.getElem?_eq_getElem hlt
        have hc' := T.chk f' _ d' e2 e
        have hg : mg x = some (.ref (He.ga K x)) := He.glo_ok X Gs (fa_nm c hxe (List.mem_of_getElem? hx0))
        cases ho : (t.P.fns[f']).obj with
        | none =>
          have D := defOk_of ho hc'
          have hlow : (t.P.fns[f']).low = false := by
            cases hl : (t.P.fns[f']).low with
            | false => rfl
            | true => exact absurd (hx ▸ D.key hl) hxe
          have hcl : d'.cl = none ∧ d'.pr = false := by
            rcases D.kind with ⟨_, a, b⟩ | a
            · exact ⟨a, b⟩
            · rw [hlow] at a; cases a
          have hk : d'.at_ = (x, none) := by
            unfold Dn.key at hx
            unfold Dn.at_
            rw [hcl.1] at hx ⊢
            simp only at hx ⊢
            rw [hx]
          have ea : d'.addr K = He.ga K x := by
            unfold Dn.addr
            rw [hcl.2, if_neg Bool.false_ne_true, hk]
            rfl
          left
          have z := ih.1 f' _ d' fd' e2 e ho F'
          rw [if_neg (by rw [hlow]; exact Bool.false_ne_true)] at z
          refine ⟨d'.addr K, fd', d'.N.take (t.P.fns[f']).np, by rw [ea]; exact hg, F'.kp, F'.bindsN (binds_at D.args (List.Nodup.sublist (List.take_sublist _ _) D.sc.nd) F'), z, fun fn' e3 => ?_⟩
          rw [e2] at e3
          cases e3
          rw [List.length_take]
          have := D.np
          have := D.len
          omega
        | some q =>
          obtain ⟨n, fl⟩ := q
          obtain ⟨y, I⟩ := iniOk_of ho hc'
          have hy : y = x := by
            unfold Dn.key at hx
            rw [I.cl] at hx
            simp only at hx
            rw [if_pos I.nm] at hx
            exact hx
          subst hy
          right
          have ea : d'.addr K = He.ma K (He.ga K y) "__init__" := by
            unfold Dn.addr Dn.at_
            rw [I.pr, if_neg Bool.false_ne_true, I.cl, I.nm]
            rfl
          have hne : d'.N.take ((t.P.fns[f']).np + 1) ≠ [] := by
            intro z
            have e0 := congrArg List.length z
            rw [List.length_take, List.length_nil] at e0
            have e1 := I.np
            have e2 := I.len
            omega
          obtain ⟨q0, ps', hps⟩ := List.exists_cons_of_ne_nil hne
          have hlen : ps'.length = (t.P.fns[f']).np := by
            have := congrArg List.length hps
            rw [List.length_take, List.length_cons] at this
            have := I.np
            have := I.len
            omega
          refine ⟨He.ga K y, d'.addr K, fd', q0, ps', hg, ?_, ?_, fun fn' e3 => ?_, fun j hj => ?_⟩
          · rw [ea]; exact He.mkr_ok (fa_mkr c I.oc)
          · have b := F'.bindsN (binds_at I.args (List.Nodup.sublist (List.take_sublist _ _) I.sc.nd) F')
            rw [hps] at b
            exact b
          · rw [e2] at e3
            cases e3
            exact ⟨by rw [ho]; rfl, hlen.symm⟩
          · have := (ihj j hj).2 f' _ d' fd' n fl y e2 e ho I.at_ F'
            rw [hps] at this
            subst hj
            rw [hlen]
            exact this
    free := fun x hx => He.free_ok X Gs (fa_fr c hx)
    eqs := fun c1 n hm => by
      obtain ⟨x, d, fn, fd', hcn, hd, hfn, ho, hlow, F', D⟩ := low_at T c (n := n) (T.eqs _ hm) (c1 := c1) (by
        have := qs_mem c (q := eqB t (c1, n)) (by unfold Txt.qs; exact List.mem_append_left _ (List.mem_append_left _ (List.mem_append_right _ (List.mem_map.mpr ⟨_, hm, rfl⟩))))
        unfold eqB at this
        cases h1 : t.cn c1 with
        | none => simp only [h1] at this; cases this
        | some x => exact ⟨x, rfl⟩)
      have q := qs_mem c (q := eqB t (c1, n)) (by unfold Txt.qs; exact List.mem_append_left _ (List.mem_append_left _ (List.mem_append_right _ (List.mem_map.mpr ⟨_, hm, rfl⟩))))
      unfold eqB at q
      simp only [hcn, hd] at q
      rw [Bool.and_eq_true, decide_eq_true_eq] at q
      refine ⟨He.ga K x, d.addr K, fd', d.N.take fn.np, by unfold Txt.cs; rw [hcn]; rfl, q.1, q.2, F'.bindsN (binds_at D.args (List.Nodup.sublist (List.take_sublist _ _) D.sc.nd) F'), fun fn' e3 => ?_, fun j hj => ?_⟩
      · rw [hfn] at e3
        cases e3
        rw [List.length_take]
        have := D.np
        have := D.len
        omega
      · have z := (ihj j hj).1 n fn d fd' hfn hd ho F'
        rw [if_pos hlow] at z
        subst hj
        exact z
    prs := fun c1 n y hm => by
      have q := qs_mem c (q := prB t (c1, n, y)) (by unfold Txt.qs; exact List.mem_append_left _ (List.mem_append_right _ (List.mem_map.mpr ⟨_, hm, rfl⟩)))
      obtain ⟨x, d, fn, fd', hcn, hd, hfn, ho, hlow, F', D⟩ := low_at T c (n := n) (T.prs _ hm) (c1 := c1) (by
        have this := q
        unfold prB at this
        cases h1 : t.cn c1 with
        | none => simp only [h1] at this; cases this
        | some x => exact ⟨x, rfl⟩)
      unfold prB at q
      simp only [hcn, hd] at q
      simp only [Bool.and_eq_true, decide_eq_true_eq] at q
      obtain ⟨⟨⟨⟨⟨q1, q2⟩, q3⟩, q4⟩, q5⟩, q6⟩ := q
      have ea : d.addr K = getA K (He.fAd K d.at_) := by unfold Dn.addr; rw [if_pos q1]
      refine ⟨He.ga K x, He.fAd K d.at_, d.addr K, fd', d.N.take fn.np, by unfold Txt.cs; rw [hcn]; rfl, ⟨q3, q4, q5, ?_⟩, F'.bindsN (binds_at D.args (List.Nodup.sublist (List.take_sublist _ _) D.sc.nd) F'), fun fn' e3 => ?_, fun j hj => ?_⟩
      · rw [ea]
        unfold getA
        split at q6
        · rename_i g0 r0 e0
          exact ⟨r0, e0⟩
        · cases q6
      · rw [hfn] at e3
        cases e3
        rw [List.length_take]
        have := D.np
        have := D.len
        omega
      · have z := (ihj j hj).1 n fn d fd' hfn hd ho F'
        rw [if_pos hlow] at z
        subst hj
        exact z
    glob := fun x dv hx _ => by
      obtain ⟨cl, hcl, hin⟩ := T.glob
      rw [hcl] at hx
      unfold globC at hx
      split at hx
      · rename_i n e
        cases hx
        obtain ⟨z1, z2⟩ := hin _ (lookup_memS e)
        have ot : OTy K (He.ga K x) := otB_ok (qs_mem c (q := fun K => otB K (He.ga K x)) (by
          unfold Txt.qs
          exact List.mem_append_left _ (List.mem_append_left _ (List.mem_append_left _ (List.mem_map.mpr ⟨x, z2, rfl⟩)))))
        have hnm : mg x = some (.ref (He.ga K x)) := He.glo_ok X Gs (fa_oc c z2)
        exact ⟨_, .ref (He.ga K x), .inl hnm, rfl, fun _ => .cls (by unfold Txt.cs; rw [z1]; rfl) ot⟩
      · unfold globF at hx
        split at hx
        · rename_i i e
          cases hx
          obtain ⟨tk, e2⟩ := He.int_ok X Gs (fa_gi c (lookup_memS e))
          exact ⟨_, .int i, .inl e2, ⟨tk, rfl⟩, fun _ => .int i⟩
        · split at hx
          · rename_i hfr
            obtain ⟨n, e, rfl⟩ := Option.map_eq_some_iff.mp hx
            obtain ⟨b1, b2⟩ := tyOf_ok e
            exact ⟨_, .ty n, .inr ⟨He.free_ok X Gs (fa_fr c hfr), b1⟩, rfl, fun _ => .ty n⟩
          · cases hx
    cls := fun c' x hx => by
      refine ⟨He.ga K x, ?_, He.glo_ok X Gs (fa_xc c (List.mem_of_getElem? hx))⟩
      unfold Txt.cs Txt.cn
      rw [List.getElem?_append_left (List.getElem?_eq_some_iff.mp hx).1, hx]
      rfl
    mkx := fun c' x a hx hp ha => by
      have ea : a = He.ga K x := by
        unfold Txt.cs Txt.cn at ha
        rw [List.getElem?_append_left (List.getElem?_eq_some_iff.mp hx).1, hx] at ha
        exact (Option.some.inj ha).symm
      subst ea
      obtain ⟨q1, q2, q3, q4⟩ := He.exc_ok (fa_xp c hp hx)
      exact ⟨q2, raises_own q3 q4, _, _, _, _, PySem.F.excBase_ValueError, q1⟩
    exm := fun c1 c2 a1 a2 x2 ha1 hx2 ha2 => by
      have hx2' : t.cn c2 = some x2 := by
        unfold Txt.cn
        rw [List.getElem?_append_left (List.getElem?_eq_some_iff.mp hx2).1, hx2]
      unfold Txt.cs at ha1 ha2
      rw [hx2'] at ha2
      obtain ⟨x1, hx1, rfl⟩ := Option.map_eq_some_iff.mp ha1
      have e2 : He.ga K x2 = a2 := Option.some.inj ha2
      subst e2
      exact He.exm_ok (fa_exm c hx1 hx2) }
end
end AM

set_option maxHeartbeats 8000000
/-! every def, every maker -/
namespace AM
open PySem PySem.Spec PyProof.Rows L2
section
variable {K : PySem.W.Frag} {cs : Cst} {F F2 H0 H1 H2 : Hp} {env : AM.Env} {σ : L2.St} {x dx : Addr} {O O' : Addr → Prop}
theorem no_own (h : ∀ (i : Nat) (t : T), env[i]? = some (some t) → t.own = false) (p : Addr) : ¬ Own env σ p := fun ⟨i, t, e, o, _⟩ => by
  rw [h i t e] at o
  cases o
theorem Ext.none (e : Ext F H0 (fun _ => False) F2 H2 (fun _ => False)) (h : ∀ p, ¬ O' p) : Ext F H0 O F2 H2 O' :=
  ⟨e.fr, fun p o a _ => e.keep p o a id, fun p a b => by
    rcases e.new p a b with z | z
    · exact z.elim
    · exact .inr z, fun p z => (h p z).elim⟩
theorem fin_ext (e : Ext F H0 O F2 H2 O') (hO : ∀ p, O p → p = x) (hH : ∀ p, p ≠ x → p ≠ dx → H0 p = H1 p) (hx : H1 x = none) (hdx : H1 dx = none) (hdn : H0 dx ≠ none) (hxn : H0 x ≠ none) : Ext F H1 (fun _ => False) F2 H2 (fun _ => False) ∨ F2 x ≠ none := by
  by_cases fx : F2 x = none
  · left
    refine ⟨e.fr, fun p o h _ => ?_, fun p a b => ?_, fun _ z => z.elim⟩
    · have px : p ≠ x := fun z => by rw [z, hx] at h; cases h
      have pd : p ≠ dx := fun z => by rw [z, hdx] at h; cases h
      exact e.keep p o (by rw [hH p px pd]; exact h) fun z => px (hO p z)
    · have px : p ≠ x := fun z => by rw [z] at a; exact a fx
      rcases e.new p a b with z | z
      · exact absurd (hO p z) px
      · have pd : p ≠ dx := fun y => by rw [y] at z; exact hdn z
        exact .inr (by rw [← hH p px pd]; exact z)
  · exact .inr fx
theorem fin_upd {o : HO} (e : Ext F H1 (fun _ => False) F2 H2 (fun _ => False)) (fx : F2 x = none) (hx : H1 x = none) : Ext F H1 (fun _ => False) (upd F2 x o) H2 (fun _ => False) :=
  ⟨e.fr.trans (Sub.upd fx), e.keep, fun p a b => by
    by_cases px : p = x
    · subst px; exact .inr hx
    · rw [upd_ne px] at a; exact e.new p a b, e.own⟩
theorem fin_updF {o : HO} (f : FIn F H0) (fx : F x = none) (h : H0 x = some o) : FIn (upd F x o) H0 := by
  refine ⟨fun p u hp => ?_, fun p u hp => ?_⟩
  · rcases rd_updF hp with z | ⟨rfl, z⟩
    · exact f.1 p u z
    · unfold Rd
      rw [h]
      exact z
  · by_cases px : p = x
    · subst px
      rw [upd_same] at hp
      cases hp
      exact h
    · rw [upd_ne px] at hp
      exact f.2 p u hp
/-- a state without a slot -/
theorem rel_none {n : Nat} (f : FIn F H0) (hl : σ.length = n) (h : ∀ (i : Nat) (t : T), env[i]? = some (some t) → False) (he : env.length = n) : Rel K cs F H0 env σ :=
  ⟨by rw [he, hl], f, fun i t e => (h i t e).elim, fun i j t u p e1 => (h i t e1).elim⟩
theorem Rel.consN {v : Option V} (r : Rel K cs F H0 env σ) : Rel K cs F H0 (none :: env) (v :: σ) := by
  have back : ∀ (i : Nat) (t : T), (none :: env)[i]? = some (some t) → ∃ j, i = j + 1 ∧ env[j]? = some (some t) := fun i t e => by
    cases i with
    | zero => simp at e
    | succ j => exact ⟨j, rfl, by simpa using e⟩
  refine ⟨by rw [List.length_cons, List.length_cons, r.len], r.fin, fun i t e => ?_, fun i j t u p e1 e2 o1 o2 s1 s2 => ?_⟩
  · obtain ⟨j, rfl, h⟩ := back i t e
    obtain ⟨v, a, b⟩ := r.slot j t h
    exact ⟨v, by simpa using a, b⟩
  · obtain ⟨a, rfl, h1⟩ := back i t e1
    obtain ⟨b, rfl, h2⟩ := back j u e2
    have := r.sep a b t u p h1 h2 o1 o2 (by simpa using s1) (by simpa using s2)
    rw [this]
end
section
variable {t : Txt} {K : PySem.W.Frag} {h : Heap} {mg : Str → Option Value} {prog : Program} {w : World} {base : Heap}
theorem fn_case (T : t.Ok) (c : SaysX t K) (X : K.In h) (Gs : h.Ns mainGlobals mg) {k : Nat} (ih : AllOk t prog w K mg base k) (ihj : ∀ j, k = j + 1 → AllOk t prog w K mg base j) {f : Nat} {fn : Fn} {d : Dn} {fd : FuncData} (hf : t.P.fns[f]? = some fn) (hd : t.ds[f]? = some d) (ho : fn.obj = none)
    (FD : FunD K d.x d.qual (defArgs d.st) (defBody d.st) (defScope d.st) [] [] (d.addr K) fd) : FnOk prog w K mg base (L2.CX prog w) (k + 1) (d.addr K) fd (d.N.take fn.np) (spF t.P (if fn.low = true then k + 1 + 1 else k + 1) f K (t.cs K) (d.N.take fn.np).length) := by
  have D := defOk_of ho (T.chk f fn d hf hd)
  have S := D.sc
  have h2 := D.len
  have h3 := D.np
  have np : (d.N.take fn.np).length = fn.np := by rw [List.length_take]; omega
  refine FD.ok S (fun vs H Q E q => spF_len q) fun cdv A outer s H vs Q E hr hsp => ?_
  obtain ⟨F, ts, lts, rel, q⟩ := hsp
  have lv : vs.length = fn.np := by
    have := rel.len
    rw [List.length_map, List.length_map] at this
    omega
  have g := good_at (E := E) (outer := outer) (H := H) T c X Gs ih ihj S (qual := d.qual) hr
  refine ⟨tSPs t.P k (fun cl d _ H' => E cl d H') K (t.cs K) fn.body.asg fn.body, snd_Ss fn.body d.N (defScope d.st) _ _ _ _ g D.body fun i hi => hi, ?_⟩
  rw [pad_eq h2 lv]
  have lt : (ts.map some).length = (vs.map some).length := rel.len
  refine ⟨F, ts.map some ++ List.replicate (fn.n - fn.np) none, rel.pad, ?_⟩
  have io : t.P.io f = fn.io := by unfold Tx.io; rw [hf]
  have hcall : t.P.call (if fn.low = true then k + 1 + 1 else k + 1) f ts = runF ⟨t.P.call k, t.P.io, t.P.glob⟩ t.P.isa fn ts := by
    cases hl : fn.low with
    | false =>
      rw [if_neg Bool.false_ne_true, Tx.call_succ, hf]
      simp only
      rw [ho]
      simp only
      rw [hl]
    | true =>
      rw [if_pos rfl, Tx.call_succ, hf]
      simp only
      rw [ho]
      simp only
      rw [hl]
      rfl
  rw [hcall, io] at q
  unfold runF at q
  split at q
  · rename_i cnd
    have ap := cnd.2
    have down : ∀ {F' H' : Hp} {env' : AM.Env} {σ' : L2.St}, Mv K (t.cs K) F H (ts.map some ++ List.replicate (fn.n - fn.np) none) (vs.map some ++ List.replicate (fn.n - fn.np) none) fn.body.asg F' H' env' σ' →
        Ext F H (Own (ts.map some) (vs.map some)) F' H' (Own (spreadE (d.N.take fn.np).length fn.io (outsOf fn.io env')) (vs.map some)) ∧ Rel K (t.cs K) F' H' (spreadE (d.N.take fn.np).length fn.io (outsOf fn.io env')) (vs.map some) ∧
        ∀ p, Own (spreadE (d.N.take fn.np).length fn.io (outsOf fn.io env')) (vs.map some) p → Own env' σ' p := fun {F' H' env' σ'} m => by
      obtain ⟨r2, o2⟩ := out_state (io := fn.io) (n := (d.N.take fn.np).length) (by rw [np, lv]) ap m.rel m.same
      exact ⟨⟨m.ext.fr, fun p o e n => m.ext.keep p o e fun z => n ((own_pad lt).mp z), fun p a b => (m.ext.new p a b).imp (own_pad lt).mp id, fun p z => (m.ext.own p (o2 p z)).imp (own_pad lt).mp id⟩, r2, o2⟩
    unfold Fs
    show Fit (evSs (clOf t.P k) t.P.isa fn.body (ts.map some ++ List.replicate (fn.n - fn.np) none)) _ _
    cases e : evSs ⟨t.P.call k, t.P.io, t.P.glob⟩ t.P.isa fn.body (ts.map some ++ List.replicate (fn.n - fn.np) none) with
    | ok fl env' =>
      rw [e] at q
      cases fl with
      | nx =>
        intro σ' F' H' m
        obtain ⟨x1, r1, o1⟩ := down m
        exact q .non F' H' ⟨x1, r1, .non, fun z => by cases z⟩
      | rt tv =>
        intro v σ' F' H' m rt fr
        obtain ⟨x1, r1, o1⟩ := down m
        exact q v F' H' ⟨x1, r1, rt, fun ow p ev => ⟨fun z => (fr ow p ev).1 (o1 p z), (fr ow p ev).2.imp (own_pad lt).mp id⟩⟩
      | bk => exact q.elim
      | ct => exact q.elim
    | ex x env' =>
      rw [e] at q
      intro cl dd σ' F' H' m rx
      obtain ⟨x1, r1, o1⟩ := down m
      exact q cl dd F' H' x1 r1 rx
    | no =>
      rw [e] at q
      exact q.elim
  · exact q.elim
theorem ini_case (T : t.Ok) (c : SaysX t K) (X : K.In h) (Gs : h.Ns mainGlobals mg) {k : Nat} (ih : AllOk t prog w K mg base k) (ihj : ∀ j, k = j + 1 → AllOk t prog w K mg base j) {f : Nat} {fn : Fn} {d : Dn} {fd : FuncData} {n : Nat} {fl : List (Str × E)} {x : Str} (hf : t.P.fns[f]? = some fn) (hd : t.ds[f]? = some d) (ho : fn.obj = some (n, fl)) (hn : t.cn n = some x)
    (FD : FunD K d.x d.qual (defArgs d.st) (defBody d.st) (defScope d.st) [] [] (d.addr K) fd) : FnOk prog w K mg base (L2.CX prog w) (k + 1) (d.addr K) fd (d.N.take (fn.np + 1)) (spI t.P (k + 1 + 1) f K (t.cs K) (He.ga K x) fn.np) := by
  obtain ⟨y, I⟩ := iniOk_of ho (T.chk f fn d hf hd)
  have hy : y = x := by
    have e := I.at_
    unfold Txt.cn at hn
    rw [hn] at e
    exact (Option.some.inj e).symm
  subst hy
  have S := I.sc
  have h2 := I.len
  have h3 := I.np
  have np : (d.N.take (fn.np + 1)).length = fn.np + 1 := by rw [List.length_take]; omega
  refine FD.ok S (fun vs H Q E q => by rw [np]; exact spI_len q) fun cdv A outer s H vs Q E hr hsp => ?_
  obtain ⟨p, dx, ws, H1, F, ts, rfl, rfl, hx, hdx, hne, lts, rel, own0, q⟩ := hsp
  have lw : ws.length = fn.np := by
    have := rel.len
    rw [List.length_map, List.length_map] at this
    omega
  have g := good_at (E := E) (outer := outer) (H := upd (upd H1 dx (.own p)) p (.ins (He.ga K y) dx [])) T c X Gs ih ihj S (qual := d.qual) hr
  have hb := apnd_ps (l := fn.body.asg) g (flds_ps (x := p) (C := He.ga K y) (dx := dx) g fl _ I.flds) fn.body _ I.body (fun i hi => hi)
  rw [List.take_append_drop] at hb
  refine ⟨_, hb, ?_⟩
  rw [pad_eq h2 (show (V.ref p :: ws).length = fn.np + 1 by rw [List.length_cons, lw])]
  -- the state at the begin
  have r1 : Rel K (t.cs K) F H1 (none :: (ts.map some ++ List.replicate (fn.n - (fn.np + 1)) none)) ((V.ref p :: ws).map some ++ List.replicate (fn.n - (fn.np + 1)) none) := by
    rw [List.map_cons, List.cons_append]
    exact rel.pad.consN
  obtain ⟨r2, _, fd2, _⟩ := r1.newO (o := .own p) hdx
  have hp2 : upd H1 dx (.own p) p = none := by rw [upd_ne hne.symm]; exact hx
  obtain ⟨r3, _, fp, np3⟩ := r2.newO (o := .ins (He.ga K y) dx []) hp2
  have own1 : ∀ (i : Nat) (t' : AM.T), (none :: (ts.map some ++ List.replicate (fn.n - (fn.np + 1)) none))[i]? = some (some t') → t'.own = false := fun i t' e => by
    cases i with
    | zero => simp at e
    | succ i =>
      have e : (ts.map some ++ List.replicate (fn.n - (fn.np + 1)) none)[i]? = some (some t') := by simpa using e
      by_cases hi : i < (ts.map some).length
      · rw [List.getElem?_append_left hi, List.getElem?_map] at e
        cases q2 : ts[i]? with
        | none => rw [q2] at e; cases e
        | some u =>
          rw [q2] at e
          cases e
          exact own0 _ (List.mem_of_getElem? q2)
      · rw [List.getElem?_append_right (by omega), List.getElem?_replicate] at e
        split at e <;> cases e
  refine ⟨F, _, r3, ?_⟩
  have hH : ∀ a, a ≠ p → a ≠ dx → upd (upd H1 dx (.own p)) p (.ins (He.ga K y) dx []) a = H1 a := fun a h1 h2 => by rw [upd_ne h1, upd_ne h2]
  have hdn : upd (upd H1 dx (.own p)) p (.ins (He.ga K y) dx []) dx ≠ none := by rw [upd_ne hne, upd_same]; intro z; cases z
  have hpn : upd (upd H1 dx (.own p)) p (.ins (He.ga K y) dx []) p ≠ none := by rw [upd_same]; intro z; cases z
  have io : t.P.io f = fn.io := by unfold Tx.io; rw [hf]
  rw [Tx.call_succ, hf, io] at q
  simp only at q
  rw [ho] at q
  simp only [Tx.make] at q
  unfold runO at q
  split at q
  · rename_i cnd
    rw [cnd.2] at q
    have noW : ∀ (outs : AM.Env) (a : Addr), ¬ Own (spreadE fn.np [] outs) (ws.map some) a := fun outs a => no_own (fun i t' e => by
      obtain ⟨_, z⟩ := spreadE_some e
      simp at z) a
    have noT : ∀ a, ¬ Own (ts.map some) (ws.map some) a := no_own fun i t' e => by
      rw [List.getElem?_map] at e
      cases q2 : ts[i]? with
      | none => rw [q2] at e; cases e
      | some u =>
        rw [q2] at e
        cases e
        exact own0 _ (List.mem_of_getElem? q2)
    have spN : ∀ (outs : AM.Env) (i : Nat) (t' : AM.T), (spreadE fn.np [] outs)[i]? = some (some t') → False := fun outs i t' e => by
      obtain ⟨_, z⟩ := spreadE_some e
      simp at z
    have relW : ∀ {F' H' : Hp} (outs : AM.Env), FIn F' H' → Rel K (t.cs K) F' H' (spreadE fn.np [] outs) (ws.map some) := fun outs fi => rel_none (n := fn.np) fi (by rw [List.length_map, lw]) (spN outs) (spreadE_length _ _ _)
    unfold Fs
    show Fit (evSs (clOf t.P k) t.P.isa fn.body (none :: (ts.map some ++ List.replicate (fn.n - (fn.np + 1)) none))) _ _
    cases e : evSs ⟨t.P.call k, t.P.io, t.P.glob⟩ t.P.isa fn.body (none :: (ts.map some ++ List.replicate (fn.n - (fn.np + 1)) none)) with
    | ok flw env1 =>
      rw [e] at q
      cases flw with
      | nx =>
        intro σ' F' H' m
        have hx' : H' p = some (.ins (He.ga K y) dx []) := m.ext.keep p _ upd_same np3
        have fx' : F' p = none := by
          cases z : F' p with
          | none => rfl
          | some o =>
            rcases m.ext.new p (by rw [z]; intro u; cases u) fp with u | u
            · exact absurd u np3
            · exact absurd u hpn
        have no' : ¬ Own env1 σ' p := fun z => by
          rcases m.ext.own p z with u | u
          · exact np3 u
          · exact hpn u
        have hself : σ'[0]? = some (some (.ref p)) := by
          rw [m.same.2 0 I.self]
          rfl
        have hC : t.cs K n = some (He.ga K y) := by unfold Txt.cs; rw [hn]; rfl
        have na : ∀ q' ∈ fl, NoAttr K (He.ga K y) q'.1 := fun q' hq => He.noat_ok (fa_no c (List.mem_of_getElem? hf) ho hn (List.mem_map.mpr ⟨q', hq, rfl⟩))
        have hcl : L2.Cls K (He.ga K y) := He.cls_ok (fa_cls c I.oc)
        refine ⟨F', env1, [], [], ⟨m.rel, hself, hx', fx', no'⟩, .nil, by simpa using I.le, by simpa using I.nd, na, hcl, ?_⟩
        have eX : Ext F (upd (upd H1 dx (.own p)) p (.ins (He.ga K y) dx [])) (fun a => a = p) F' H' (OX p env1 σ') :=
          ⟨m.ext.fr, fun a o h' n' => m.ext.keep a o h' fun z => no_own own1 a z, fun a b c' => (m.ext.new a b c').elim (fun z => (no_own own1 a z).elim) .inr, fun a z => by
            rcases z with z | z
            · exact (m.ext.own a z).elim (fun z => (no_own own1 a z).elim) .inr
            · exact .inl z⟩
        show Fit (evF (clOf t.P k) fl env1 []) _ _
        simp only [R.bind] at q
        cases e2 : evF ⟨t.P.call k, t.P.io, t.P.glob⟩ fl env1 [] with
        | ok out env2 =>
          rw [e2] at q
          intro F'' H'' fs' ex' mid hns rd
          rw [List.map_nil, List.nil_append] at hns
          have e3 := eX.trans ex'
          rcases fin_ext (x := p) (dx := dx) (H1 := H1) e3 (fun a z => z) hH hx hdx hdn hpn with z | z
          · have z2 := fin_upd (x := p) (o := .ins (He.ga K y) dx fs') z mid.fx hx
            refine q (.ref p) (upd F'' p (.ins (He.ga K y) dx fs')) H'' ⟨z2.none (noW _), relW _ (fin_updF mid.rel.fin mid.fx mid.at_), ?_, fun o => by cases o⟩ rfl
            refine .obj upd_same ⟨hC, hcl, hns, fun a ha => ?_, otB_ok (qs_mem c (q := fun K => otB K (He.ga K y)) (by unfold Txt.qs; exact List.mem_append_left _ (List.mem_append_left _ (List.mem_append_left _ (List.mem_map.mpr ⟨y, I.oc, rfl⟩)))))⟩ (rd.mono (Sub.upd mid.fx))
            obtain ⟨q', hq, rfl⟩ := List.mem_map.mp ha
            exact na q' hq
          · exact absurd mid.fx z
        | ex x1 env2 =>
          rw [e2] at q
          intro cl dd F'' H'' ex' r' fx'' no'' rx
          have e3 := eX.trans ex'
          rcases fin_ext (x := p) (dx := dx) (H1 := H1) e3 (fun a z => z) hH hx hdx hdn hpn with z | z
          · exact q cl dd F'' H'' (z.none (noW _)) (relW _ r'.fin) rx
          · exact absurd fx'' z
        | no =>
          rw [e2] at q
          exact q.elim
      | rt tv => exact q.elim
      | bk => exact q.elim
      | ct => exact q.elim
    | ex x1 env1 =>
      rw [e] at q
      intro cl dd σ' F' H' m rx
      have fx' : F' p = none := by
        cases z : F' p with
        | none => rfl
        | some o =>
          rcases m.ext.new p (by rw [z]; intro u; cases u) fp with u | u
          · exact absurd u np3
          · exact absurd u hpn
      rcases fin_ext (x := p) (dx := dx) (H1 := H1) m.ext (fun a z => (no_own own1 a z).elim) hH hx hdx hdn hpn with z | z
      · exact q cl dd F' H' (z.none (noW _)) (relW _ m.rel.fin) rx
      · exact absurd fx' z
    | no =>
      rw [e] at q
      exact q.elim
  · exact q.elim
/-- EVERY DEF AND EVERY MAKER KEEPS WHAT THE EVALUATOR PROMISES -/
theorem all_ok (T : t.Ok) (c : SaysX t K) (X : K.In h) (Gs : h.Ns mainGlobals mg) : ∀ k, AllOk t prog w K mg base k := by
  have two : ∀ k, AllOk t prog w K mg base k ∧ ∀ j, k = j + 1 → AllOk t prog w K mg base j := by
    intro k
    induction k with
    | zero =>
      refine ⟨⟨fun f fn d fd hf hd ho FD => ?_, fun f fn d fd n fl x hf hd ho hn FD => ?_⟩, fun j hj => by cases hj⟩
      · refine ⟨fun vs H Q E q => spF_len q, fun A outer s H args us vs Q E hr he hb hv hs => ?_⟩
        obtain ⟨F, ts, _, _, q⟩ := hs
        have hz : t.P.call (if fn.low = true then 0 + 1 else 0) f ts = .no := by
          cases hl : fn.low with
          | false => rfl
          | true =>
            rw [if_pos rfl, Tx.call_succ, hf]
            simp only
            rw [ho]
            simp only
            rw [hl]
            rfl
        rw [hz] at q
        exact q.elim
      · obtain ⟨y, I⟩ := iniOk_of ho (T.chk f fn d hf hd)
        have h2 := I.len
        have h3 := I.np
        refine ⟨fun vs H Q E q => by rw [List.length_take, spI_len q]; omega, fun A outer s H args us vs Q E hr he hb hv hs => ?_⟩
        obtain ⟨p, dx, ws, H1, F, ts, _, _, _, _, _, _, _, _, q⟩ := hs
        rw [Tx.call_succ, hf] at q
        simp only at q
        rw [ho] at q
        exact q.elim
    | succ k ih =>
      refine ⟨⟨fun f fn d fd hf hd ho FD => fn_case T c X Gs ih.1 ih.2 hf hd ho FD, fun f fn d fd n fl x hf hd ho hn FD => ini_case T c X Gs ih.1 ih.2 hf hd ho hn FD⟩, fun j hj => ?_⟩
      cases hj
      exact ih.1
  exact fun k => (two k).1
end
end AM

set_option maxHeartbeats 8000000
/-! the law's end: what the evaluator answers is what the row asks -/
namespace AM
open PySem PySem.Spec PyProof.Rows L2
theorem repInts {K : PySem.W.Frag} {cs : Cst} {F : Hp} : ∀ ns : List Int, RepDs K cs F (ns.map D.int) (ns.map V.int)
  | [] => .nil
  | n :: ns => .cons (.int n) (repInts ns)
/-- the law's promise, by the evaluator's answer -/
theorem sp_law {P : Tx} {k f : Nat} {K : PySem.W.Frag} {cs : Cst} {np : Nat} (h1 : np = 1) (h : ∀ ns : List Int, ns.length ≤ 63 → ∃ outs, P.call k f [.d (.lst (ns.map .int))] = .ok (.d (.bl true)) outs) (H : Hp) (a : Addr) (ns : List Int) (hn : ns.length ≤ 63) (hl : LstAt K H a (ns.map V.int)) :
    spF P k f K cs np [.ref a] H (fun v _ => v = .bl true) fun _ _ _ => False := by
  subst h1
  obtain ⟨outs, e⟩ := h ns hn
  refine ⟨H, [.d (.lst (ns.map .int))], rfl, ⟨rfl, ⟨fun _ _ z => z, fun _ _ z => z⟩, fun i t e => ?_, fun i j t u p e1 e2 o1 _ _ _ => ?_⟩, ?_⟩
  · cases i with
    | zero =>
      cases e
      exact ⟨_, rfl, .lst hl (repInts ns)⟩
    | succ i => simp at e
  · cases i with
    | zero => cases e1; cases o1
    | succ i => simp at e1
  · rw [e]
    intro v F' H' p
    cases (show RepD K cs F' (.bl true) v from p.rep)
    rfl
theorem cx_none {P : Program} {w : World} (H : Hp) (s : Shared) (e : Value) (s' : Shared) (h : L2.CX P w [] H s (fun _ _ _ => False) e s') : False := by
  obtain ⟨_, _, _, _, _, _, _, _, _, _, _, _, z⟩ := h
  exact z
/-- what the head is asked for -/
abbrev AlX : Type := He.AlD × Bool × List He.FnW
def obsX (n : Nat) (t : Txt) (g : Addr → Option Obj) : AlX :=
  (He.obsDG n t.fa t.fn g, (t.qs.all fun q => q (He.frG g (He.asD g n))), t.gt.map fun d => fnAt (He.frG g (He.asD g n)) (d.addr (He.frG g (He.asD g n))))
def valX (t : Txt) : AlX := (He.valD t.fn, true, t.gt.map fun d => d.dd.val)
theorem says_of {n : Nat} {t : Txt} {g : Addr → Option Obj} (e : obsX n t g = valX t) : SaysX t (He.frG g (He.asD g n)) := by
  have e1 := congrArg (fun z : AlX => z.1) e
  have e2 := congrArg (fun z : AlX => z.2.1) e
  have e3 := congrArg (fun z : AlX => z.2.2) e
  exact ⟨e1, e2, e3⟩
def hookX (n : Nat) (t : Txt) : PySem.W.Hook where
  α := AlX
  obs := fun s => obsX n t s.heap.get?
  val := fun _ => valX t
  says := fun _ h => ∃ K : PySem.W.Frag, K.In h ∧ SaysX t K
  of := fun _ _ e => ⟨_, He.frG_in, says_of e⟩
  keeps := fun _ _ _ z y => z.imp fun K x => ⟨PySem.W.Frag.In.keeps x.1 y, x.2⟩
theorem obsX_eq {n : Nat} {t : Txt} {g : Addr → Option Obj} {s : Shared} (h : ∀ a, g a = s.heap.get? a) : obsX n t g = (hookX n t).obs s := by
  obtain rfl : g = s.heap.get? := funext h
  rfl
/-- from the head's facts to the walk -/
theorem walk_am {l : PySem.W.OpenLaw} {k : Nat} {q : Program} {loose : List Str} {XP : (Str → Option Value) → Heap → Prop} {d : DefRec} {t : Txt} {f : Nat} {fn : Fn} {dn : Dn} {x : Str}
    (hn : l.most = some 63) (hdf : d.params.defaults = []) (hr : Room k callerA) (T : t.Ok) (hf : t.P.fns[f]? = some fn) (hd : t.ds[f]? = some dn) (hx : dn.x = d.name) (hcl : dn.cl = none) (hpr : dn.pr = false) (hof : fn.obj = none) (hol : fn.low = false) (hne : dn.x ≠ "") (h1 : dn.N.take fn.np = [x])
    (h : ∀ ns : List Int, ns.length ≤ 63 → ∃ outs, t.P.call k f [.d (.lst (ns.map .int))] = .ok (.d (.bl true)) outs) :
    PySem.W.WalkO q loose XP (fun _ h => ∃ K : PySem.W.Frag, K.In h ∧ SaysX t K) l.row.toRowW d [] (fun f vs => PySem.call f vs) := by
  refine Att.attach_call hn hdf fun w s₀ s₁ mg mb fa o pm cd doc a vs ns G Y ho hd' hcd hmg hobj hints hlen hg => ?_
  obtain ⟨K, KX, c⟩ := Y
  obtain ⟨fd, FD⟩ := def_of c hd
  have hk : dn.key = dn.x := by unfold Dn.key; rw [hcl]
  have hq : dn.addr K = He.ga K dn.x := by
    unfold Dn.addr Dn.at_
    rw [hpr, if_neg Bool.false_ne_true, hcl]
    rfl
  have ea : fa = dn.addr K := by
    have hm := He.glo_ok KX G.T.g (fa_nm (x := dn.x) c hne (by rw [T.nm]; exact List.mem_map.mpr ⟨dn, List.mem_of_getElem? hd, hk⟩))
    rw [hx, hmg] at hm
    cases hm
    rw [hq, hx]
  subst ea
  have D := defOk_of hof (T.chk f fn dn hf hd)
  have b := binds_at D.args (List.Nodup.sublist (List.take_sublist _ _) D.sc.nd) FD
  rw [h1] at b
  have hF : ∀ base : Heap, K.In base → base.Ns mainGlobals mg → FnOk l.prog w K mg base (L2.CX l.prog w) k (dn.addr K) fd [x] (spF t.P k f K (t.cs K) 1) := fun base hb hbn => by
    have := (all_ok (prog := l.prog) (w := w) (base := base) T c hb hbn k).1 f fn dn fd hf hd hof FD
    rw [if_neg (by rw [hol]; exact Bool.false_ne_true), h1] at this
    exact this
  refine law_call KX G.T.g G.T.b G.T.builtins G.T.nolimit hg hobj hints (Nat.le_trans hlen (by decide)) hr hF (fun s u => FD.bindsA (ps := [x]) b s [u] rfl) (fun H hO hS => sp_law rfl h H a ns hlen ?_) fun H e s' => cx_none H s₁ e s'
  rcases hS with hS | ⟨oo, its, n, hk, hc, hdd, hs, hz, r⟩
  · exact .inl hS
  · right
    have e := KX a oo hk
    rw [hobj] at e
    have e := Option.some.inj e
    subst e
    exact ⟨_, _, hk, by cases hs; exact hz, by cases hs; exact r⟩
end AM

set_option maxHeartbeats 8000000
/-! the evaluator by simp; the dice -/
namespace AM
open PySem
theorem bindR_ok {α β : Type} (a : α) (env : Env) (f : α → Env → R β) : (R.ok a env).bind f = f a env := (rfl)
theorem bindR_ex {α β : Type} (x : X) (env : Env) (f : α → Env → R β) : (R.ex x env : R α).bind f = .ex x env := (rfl)
theorem bl_ok (b : Bool) (env : Env) : (R.ok (T.d (.bl b)) env).bl = .ok b env := (rfl)
theorem bl_ex (x : X) (env : Env) : (R.ex x env : R T).bl = .ex x env := (rfl)
theorem snap_d (d : D) : (T.d d).snap = d := (rfl)
theorem snap_l (d : List D) : (T.l d).snap = .lst d := (rfl)
def fin (io : List Nat) (r : R Fl) : R T := match r with
  | .ok .nx env => .ok (.d .non) (outsOf io env)
  | .ok (.rt t) env => .ok t (outsOf io env)
  | .ex x env => .ex x (outsOf io env)
  | _ => .no
theorem runF_eq {C : Cl} {is : Nat → Nat → Bool} {fn : Fn} {ts : List T} (h : ts.length = fn.np) (ha : apart fn.io fn.body.asg = true) : runF C is fn ts = fin fn.io (evSs C is fn.body (ts.map some ++ List.replicate (fn.n - fn.np) none)) := by
  unfold runF
  rw [if_pos ⟨h, ha⟩]
  rfl
theorem fin_rt {io : List Nat} {t : T} {env : Env} : fin io (.ok (.rt t) env) = .ok t (outsOf io env) := (rfl)
theorem fin_nx {io : List Nat} {env : Env} : fin io (.ok .nx env) = .ok (.d .non) (outsOf io env) := (rfl)
theorem fin_ex {io : List Nat} {x : X} {env : Env} : fin io (.ex x env) = .ex x (outsOf io env) := (rfl)
/-! ### prims -/
theorem p_add (i j : Int) : primF (.bin .Add) [.int i, .int j] = some (.d (.int (i + j))) := (rfl)
theorem p_sub (i j : Int) : primF (.bin .Sub) [.int i, .int j] = some (.d (.int (i - j))) := (rfl)
theorem p_mul (i j : Int) : primF (.bin .Mult) [.int i, .int j] = if (-(2 ^ 64) < i ∧ i < 2 ^ 64) ∨ (-(2 ^ 64) < j ∧ j < 2 ^ 64) then some (.d (.int (i * j))) else none := (rfl)
theorem p_mod (i j : Int) : primF (.bin .Mod) [.int i, .int j] = if 0 < j then some (.d (.int (i % j))) else none := (rfl)
theorem p_div (i j : Int) : primF (.bin .FloorDiv) [.int i, .int j] = if 0 < j ∧ j < 1073741824 then some (.d (.int (i / j))) else none := (rfl)
theorem p_pow (i j : Int) : primF (.bin .Pow) [.int i, .int j] = if 0 ≤ j ∧ j ≤ 1000000 ∧ i.natAbs < 2 ^ 64 then some (.d (.int (i ^ j.toNat))) else none := (rfl)
theorem p_addT (a b : List D) : primF (.bin .Add) [.tup a, .tup b] = if a.length + b.length ≤ sizeLine then some (.d (.tup (a ++ b))) else none := (rfl)
theorem p_addL (a b : List D) : primF (.bin .Add) [.lst a, .lst b] = if a.length + b.length ≤ sizeLine then some (.l (a ++ b)) else none := (rfl)
theorem p_mulT (a : List D) (k : Int) : primF (.bin .Mult) [.tup a, .int k] = if a ≠ [] ∧ 2 ≤ k ∧ k ≤ 1000 ∧ a.length ≤ 1000 then some (.d (.tup (List.replicate k.toNat a).flatten)) else if k = 1 then some (.d (.tup a)) else none := (rfl)
theorem p_mulL (a : List D) (k : Int) : primF (.bin .Mult) [.lst a, .int k] = if -(2 ^ 63) ≤ k ∧ k < 2 ^ 63 ∧ a.length * k.toNat ≤ sizeLine then some (.l (List.replicate k.toNat a).flatten) else none := (rfl)
theorem p_lt (i j : Int) : primF (.cmp .Lt) [.int i, .int j] = some (.d (.bl (decide (i < j)))) := (rfl)
theorem p_le (i j : Int) : primF (.cmp .LtE) [.int i, .int j] = some (.d (.bl (decide (i ≤ j)))) := (rfl)
theorem p_gt (i j : Int) : primF (.cmp .Gt) [.int i, .int j] = some (.d (.bl (decide (j < i)))) := (rfl)
theorem p_ge (i j : Int) : primF (.cmp .GtE) [.int i, .int j] = some (.d (.bl (decide (j ≤ i)))) := (rfl)
theorem p_eq (i j : Int) : primF (.cmp .Eq) [.int i, .int j] = some (.d (.bl (decide (i = j)))) := (rfl)
theorem p_ne (i j : Int) : primF (.cmp .NotEq) [.int i, .int j] = some (.d (.bl (!decide (i = j)))) := (rfl)
theorem sh_str {x : Str} (h : PyData.strOk x = true) : SeqAt.shaped (D.toP (.str x)) = true := by simp [SeqAt.shaped, D.toP, PyData.canLay0, PyData.depth, h]
theorem eqF_by {d e : D} (h1 : SeqAt.shaped d.toP = true) (h2 : SeqAt.shaped e.toP = true) : eqF d e = some (PyData.eqv d.toP e.toP) := by
  unfold eqF
  rw [h1, h2]
  rfl
theorem eqv_str (i j : Str) : PyData.eqv (D.toP (.str i)) (D.toP (.str j)) = decide (i = j) := by
  by_cases e : i = j
  · subst e; simp [PyData.eqv, D.toP]
  · simp [PyData.eqv, D.toP, e]
theorem p_eqX {d e : D} : primF (.cmp .Eq) [d, e] = (eqF d e).map fun b => .d (.bl b) := (rfl)
theorem p_neX {d e : D} : primF (.cmp .NotEq) [d, e] = (eqF d e).map fun b => .d (.bl (!b)) := by
  show ((eqF d e).map (!·)).map (fun b => T.d (D.bl b)) = _
  rw [Option.map_map]
  rfl
theorem p_eqS (i j : Str) (h1 : PyData.strOk i = true) (h2 : PyData.strOk j = true) : primF (.cmp .Eq) [.str i, .str j] = some (.d (.bl (decide (i = j)))) := by
  rw [p_eqX, eqF_by (sh_str h1) (sh_str h2), eqv_str]
  rfl
theorem p_neS (i j : Str) (h1 : PyData.strOk i = true) (h2 : PyData.strOk j = true) : primF (.cmp .NotEq) [.str i, .str j] = some (.d (.bl (!decide (i = j)))) := by
  rw [p_neX, eqF_by (sh_str h1) (sh_str h2), eqv_str]
  rfl
theorem p_is (d : D) : primF (.cmp .Is) [d, .non] = some (.d (.bl d.isNon)) := by cases d <;> rfl
theorem p_isn (d : D) : primF (.cmp .IsNot) [d, .non] = some (.d (.bl (!d.isNon))) := by cases d <;> rfl
theorem p_ixL (a : List D) (i : Int) : primF .ix [.lst a, .int i] = (L2.atI a i).map .d := (rfl)
theorem p_ixT (a : List D) (i : Int) : primF .ix [.tup a, .int i] = (L2.atI a i).map .d := (rfl)
theorem p_neg (i : Int) : primF .neg [.int i] = some (.d (.int (-i))) := (rfl)
theorem p_tup (ds : List D) : primF .tup ds = if ds.length ≤ sizeLine then some (.d (.tup ds)) else none := (rfl)
theorem p_lst (ds : List D) : primF .lst ds = if ds.length ≤ sizeLine then some (.l ds) else none := (rfl)
theorem p_dic : primF .dic [] = some (.d (.dic [])) := (rfl)
theorem p_lenL (xs : List D) : primF (.bi .len) [.lst xs] = some (.d (.int xs.length)) := (rfl)
theorem p_lenT (xs : List D) : primF (.bi .len) [.tup xs] = some (.d (.int xs.length)) := (rfl)
theorem p_listL (xs : List D) : primF (.bi .list) [.lst xs] = some (.l xs) := (rfl)
theorem p_listT (xs : List D) : primF (.bi .list) [.tup xs] = some (.l xs) := (rfl)
theorem p_tupL (xs : List D) : primF (.bi .tuple) [.lst xs] = some (.d (.tup xs)) := (rfl)
theorem p_tupT (xs : List D) : primF (.bi .tuple) [.tup xs] = some (.d (.tup xs)) := (rfl)
theorem p_abs (i : Int) : primF (.bi .abs) [.int i] = some (.d (.int (if i < 0 then -i else i))) := (rfl)
theorem p_int (i : Int) : primF (.bi .int) [.int i] = some (.d (.int i)) := (rfl)
theorem p_intB (b : Bool) : primF (.bi .int) [.bl b] = some (.d (.int (if b then 1 else 0))) := (rfl)
theorem p_min (i j : Int) : primF (.bi .min) [.int i, .int j] = some (.d (.int (if j < i then j else i))) := (rfl)
theorem p_max (i j : Int) : primF (.bi .max) [.int i, .int j] = some (.d (.int (if j > i then j else i))) := (rfl)
theorem p_pow18 : primF (.bin .Pow) [.int 10, .int 18] = some (.d (.int 1000000000000000000)) := by
  rw [p_pow, if_pos (by decide)]
  rfl
theorem small_le {n : Nat} (h : n ≤ 1000000) : n ≤ sizeLine := Nat.le_trans h (by decide)
def diceFn : Fn := ⟨1, 2, [],
  (.cons (.ret (.prim .lst (.cons (.lc [("_law_cell", 1)] (.name 1) (.seq (.sl (.vw 0) .no (.yes (.cst (.int 63))))) .no (.prim (.bi .abs) (.cons (.prim (.bi .int) (.cons (.vw 1) .nil)) .nil))) (.cons (.cst (.int 0)) (.cons (.cst (.int 0)) (.cons (.cst (.int 1)) (.cons (.cst (.int 0)) .nil))))))) (.nil)), none, false⟩
def drawFn : Fn := ⟨2, 5, [0],
  (.cons (.ife (.and (.prim (.cmp .Eq) (.cons (.prim .ix (.cons (.vw 0) (.cons (.cst (.int 2)) .nil))) (.cons (.cst (.int 0)) .nil))) (.one (.prim (.cmp .Lt) (.cons (.prim .ix (.cons (.vw 0) (.cons (.cst (.int 1)) .nil))) (.cons (.prim (.bi .len) (.cons (.prim .ix (.cons (.vw 0) (.cons (.cst (.int 0)) .nil))) .nil)) .nil)))))
  (.cons (.set 3 (.prim .ix (.cons (.prim .ix (.cons (.vw 0) (.cons (.cst (.int 0)) .nil))) (.cons (.prim .ix (.cons (.vw 0) (.cons (.cst (.int 1)) .nil))) .nil)))) (.cons (.setIx 0 (.cst (.int 1)) (.prim (.bin .Add) (.cons (.prim .ix (.cons (.vw 0) (.cons (.cst (.int 1)) .nil))) (.cons (.cst (.int 1)) .nil)))) (.cons (.ife (.prim (.cmp .GtE) (.cons (.vw 3) (.cons (.prim (.bin .Pow) (.cons (.cst (.int 10)) (.cons (.cst (.int 18)) .nil))) .nil)))
    (.cons (.setIx 0 (.cst (.int 2)) (.var 3)) (.nil))
    (.cons (.setIx 0 (.cst (.int 3)) (.prim (.bin .Mod) (.cons (.prim (.bi .int) (.cons (.prim (.bin .Add) (.cons (.prim (.bin .Add) (.cons (.prim (.bin .Mult) (.cons (.prim .ix (.cons (.vw 0) (.cons (.cst (.int 3)) .nil))) (.cons (.cst (.int 69621)) .nil))) (.cons (.prim (.bin .Mult) (.cons (.vw 3) (.cons (.cst (.int 40692)) .nil))) .nil))) (.cons (.prim .ix (.cons (.vw 0) (.cons (.cst (.int 1)) .nil))) .nil))) .nil)) (.cons (.cst (.int 2147483647)) .nil)))) (.nil))) (.nil))))
  (.nil)) (.cons (.ife (.prim (.cmp .Gt) (.cons (.prim .ix (.cons (.vw 0) (.cons (.cst (.int 2)) .nil))) (.cons (.cst (.int 0)) .nil)))
  (.cons (.set 4 (.prim (.bin .Mod) (.cons (.prim (.bi .int) (.cons (.prim .ix (.cons (.vw 0) (.cons (.cst (.int 2)) .nil))) .nil)) (.cons (.vw 1) .nil)))) (.cons (.setIx 0 (.cst (.int 2)) (.prim (.bin .FloorDiv) (.cons (.prim (.bi .int) (.cons (.prim .ix (.cons (.vw 0) (.cons (.cst (.int 2)) .nil))) .nil)) (.cons (.vw 1) .nil)))) (.cons (.ret (.var 4)) (.nil))))
  (.nil)) (.cons (.setIx 0 (.cst (.int 4)) (.prim (.bin .Add) (.cons (.prim .ix (.cons (.vw 0) (.cons (.cst (.int 4)) .nil))) (.cons (.cst (.int 1)) .nil)))) (.cons (.setIx 0 (.cst (.int 3)) (.prim (.bin .Mod) (.cons (.prim (.bi .int) (.cons (.prim (.bin .Add) (.cons (.prim (.bin .Add) (.cons (.prim (.bin .Mult) (.cons (.prim .ix (.cons (.vw 0) (.cons (.cst (.int 3)) .nil))) (.cons (.cst (.int 48271)) .nil))) (.cons (.prim (.bin .Mult) (.cons (.prim .ix (.cons (.vw 0) (.cons (.cst (.int 4)) .nil))) (.cons (.cst (.int 7919)) .nil))) .nil))) (.cons (.cst (.int 1)) .nil))) .nil)) (.cons (.cst (.int 2147483647)) .nil)))) (.cons (.set 2 (.prim (.bin .Mod) (.cons (.prim (.bi .int) (.cons (.prim (.bin .Mult) (.cons (.prim .ix (.cons (.vw 0) (.cons (.cst (.int 3)) .nil))) (.cons (.prim (.bin .Add) (.cons (.prim (.bin .FloorDiv) (.cons (.prim .ix (.cons (.vw 0) (.cons (.cst (.int 3)) .nil))) (.cons (.cst (.int 1009)) .nil))) (.cons (.cst (.int 69623)) .nil))) .nil))) .nil)) (.cons (.cst (.int 2147483399)) .nil)))) (.cons (.set 2 (.prim (.bin .Mod) (.cons (.prim (.bi .int) (.cons (.prim (.bin .Mult) (.cons (.vw 2) (.cons (.prim (.bin .Add) (.cons (.prim (.bin .FloorDiv) (.cons (.vw 2) (.cons (.cst (.int 2003)) .nil))) (.cons (.cst (.int 40693)) .nil))) .nil))) .nil)) (.cons (.cst (.int 2147483563)) .nil)))) (.cons (.ret (.prim (.bin .Mod) (.cons (.prim (.bi .int) (.cons (.prim (.bin .FloorDiv) (.cons (.vw 2) (.cons (.cst (.int 16)) .nil))) .nil)) (.cons (.vw 1) .nil)))) (.nil)))))))), none, false⟩

theorem at0 (a b c d e : D) : L2.atI [a, b, c, d, e] (0 : Int) = some a := (rfl)
theorem at1 (a b c d e : D) : L2.atI [a, b, c, d, e] (1 : Int) = some b := (rfl)
theorem at2 (a b c d e : D) : L2.atI [a, b, c, d, e] (2 : Int) = some c := (rfl)
theorem at3 (a b c d e : D) : L2.atI [a, b, c, d, e] (3 : Int) = some d := (rfl)
theorem at4 (a b c d e : D) : L2.atI [a, b, c, d, e] (4 : Int) = some e := (rfl)
theorem put1 (a b c d e x : D) (r : Env) : putR 0 (.int 1) x (some (.l [a, b, c, d, e]) :: r) = .ok .nx (some (.l [a, x, c, d, e]) :: r) := (rfl)
theorem put2 (a b c d e x : D) (r : Env) : putR 0 (.int 2) x (some (.l [a, b, c, d, e]) :: r) = .ok .nx (some (.l [a, b, x, d, e]) :: r) := (rfl)
theorem put3 (a b c d e x : D) (r : Env) : putR 0 (.int 3) x (some (.l [a, b, c, d, e]) :: r) = .ok .nx (some (.l [a, b, c, x, e]) :: r) := (rfl)
theorem put4 (a b c d e x : D) (r : Env) : putR 0 (.int 4) x (some (.l [a, b, c, d, e]) :: r) = .ok .nx (some (.l [a, b, c, d, x]) :: r) := (rfl)
theorem evSs_nx {C : Cl} {is : Nat → Nat → Bool} {s : S} {ss : Ss} {env env' : Env} (h : evS C is s env = .ok .nx env') : evSs C is (.cons s ss) env = evSs C is ss env' := by
  simp only [evSs, h, bindR_ok]
theorem evSs_rt {C : Cl} {is : Nat → Nat → Bool} {s : S} {ss : Ss} {env env' : Env} {t : T} (h : evS C is s env = .ok (.rt t) env') : evSs C is (.cons s ss) env = .ok (.rt t) env' := by
  simp only [evSs, h, bindR_ok]
theorem evSs_ex {C : Cl} {is : Nat → Nat → Bool} {s : S} {ss : Ss} {env env' : Env} {t : X} (h : evS C is s env = .ex t env') : evSs C is (.cons s ss) env = .ex t env' := by
  simp only [evSs, h, bindR_ex]
def Ss.hd : Ss → S
  | .cons s _ => s
  | .nil => .pass
def Ss.tl : Ss → Ss
  | .cons _ r => r
  | .nil => .nil
theorem tail_big (C : Cl) (is : Nat → Nat → Bool) (p b s c n : Int) (cells : List D) (x : Option T) (h1 : 0 < b) (hn : 0 < n) (hm : n < 1073741824) :
    ∃ env', evSs C is drawFn.body.tl [some (.l [.lst cells, .int p, .int b, .int s, .int c]), some (.d (.int n)), none, x, none] = .ok (.rt (.d (.int (b % n)))) (some (.l [.lst cells, .int p, .int (b / n), .int s, .int c]) :: env') := by
  simp only [drawFn, Ss.tl,  List.map_cons, List.map_nil, List.replicate, List.cons_append, List.nil_append, evSs, evS, evE, evEs, opd, slotOf, Es.slots, bindR_ok, bindR_ex, bl_ok, setS, snap_d, snap_l, p_add, p_sub, p_mul, p_mod, p_div, p_pow18, p_lt, p_le, p_gt, p_ge, p_eq, p_ne, p_ixL, p_ixT, p_neg, p_lenL, p_lenT, p_int, p_abs, p_min, p_max, List.getD_cons_zero, List.getD_cons_succ, List.getD_nil, List.set_cons_zero, List.set_cons_succ, List.length_cons, List.length_nil, List.length_set, Option.map_some, decide_eq_true_eq, decide_true, decide_false, if_true, if_false, and_self, fin_rt, fin_nx, outsOf, Bool.false_eq_true, Nat.reduceSub, Nat.reduceAdd, Nat.reduceLT, Int.reduceNeg, Int.reducePow, Int.reduceLT, or_true, true_or, at0, at1, at2, at3, at4, put1, put2, put3, put4, h1, hn, hm]
  exact ⟨_, rfl⟩
theorem tail_mix (C : Cl) (is : Nat → Nat → Bool) (p b s c n : Int) (cells : List D) (x : Option T) (h1 : ¬ 0 < b) (hn : 0 < n) (hm : n < 1073741824) :
    ∃ r s' env', 0 ≤ r ∧ r < n ∧ evSs C is drawFn.body.tl [some (.l [.lst cells, .int p, .int b, .int s, .int c]), some (.d (.int n)), none, x, none] = .ok (.rt (.d (.int r))) (some (.l [.lst cells, .int p, .int b, .int s', .int (c + 1)]) :: env') := by
  have step : ∀ x : Int, (-18446744073709551616 < x % 2147483647 ∧ x % 2147483647 < 18446744073709551616) := fun x => by
    have h1 := Int.emod_nonneg x (show (2147483647 : Int) ≠ 0 by decide)
    have h2 := Int.emod_lt_of_pos x (show (0 : Int) < 2147483647 by decide)
    omega
  have step2 : ∀ x : Int, (-18446744073709551616 < x % 2147483399 ∧ x % 2147483399 < 18446744073709551616) := fun x => by
    have h1 := Int.emod_nonneg x (show (2147483399 : Int) ≠ 0 by decide)
    have h2 := Int.emod_lt_of_pos x (show (0 : Int) < 2147483399 by decide)
    omega
  simp only [drawFn, Ss.tl,  List.map_cons, List.map_nil, List.replicate, List.cons_append, List.nil_append, evSs, evS, evE, evEs, opd, slotOf, Es.slots, bindR_ok, bindR_ex, bl_ok, setS, snap_d, snap_l, p_add, p_sub, p_mul, p_mod, p_div, p_pow18, p_lt, p_le, p_gt, p_ge, p_eq, p_ne, p_ixL, p_ixT, p_neg, p_lenL, p_lenT, p_int, p_abs, p_min, p_max, List.getD_cons_zero, List.getD_cons_succ, List.getD_nil, List.set_cons_zero, List.set_cons_succ, List.length_cons, List.length_nil, List.length_set, Option.map_some, decide_eq_true_eq, decide_true, decide_false, if_true, if_false, and_self, fin_rt, fin_nx, outsOf, Bool.false_eq_true, Nat.reduceSub, Nat.reduceAdd, Nat.reduceLT, Int.reduceNeg, Int.reducePow, Int.reduceLT, or_true, true_or, at0, at1, at2, at3, at4, put1, put2, put3, put4, h1, hn, hm, step, step2]
  exact ⟨_, _, _, Int.emod_nonneg _ (by omega), Int.emod_lt_of_pos _ hn, rfl⟩
theorem head_no (C : Cl) (is : Nat → Nat → Bool) (p b s c n : Int) (cells : List D) (h0 : ¬ (b = 0 ∧ p < cells.length)) :
    evS C is drawFn.body.hd [some (.l [.lst cells, .int p, .int b, .int s, .int c]), some (.d (.int n)), none, none, none] = .ok .nx [some (.l [.lst cells, .int p, .int b, .int s, .int c]), some (.d (.int n)), none, none, none] := by
  by_cases b0 : b = 0
  · have hp : ¬ p < (cells.length : Int) := fun z => h0 ⟨b0, z⟩
    subst b0
    simp only [drawFn, Ss.hd,  List.map_cons, List.map_nil, List.replicate, List.cons_append, List.nil_append, evSs, evS, evE, evEs, opd, slotOf, Es.slots, bindR_ok, bindR_ex, bl_ok, setS, snap_d, snap_l, p_add, p_sub, p_mul, p_mod, p_div, p_pow18, p_lt, p_le, p_gt, p_ge, p_eq, p_ne, p_ixL, p_ixT, p_neg, p_lenL, p_lenT, p_int, p_abs, p_min, p_max, List.getD_cons_zero, List.getD_cons_succ, List.getD_nil, List.set_cons_zero, List.set_cons_succ, List.length_cons, List.length_nil, List.length_set, Option.map_some, decide_eq_true_eq, decide_true, decide_false, if_true, if_false, and_self, fin_rt, fin_nx, outsOf, Bool.false_eq_true, Nat.reduceSub, Nat.reduceAdd, Nat.reduceLT, Int.reduceNeg, Int.reducePow, Int.reduceLT, or_true, true_or, at0, at1, at2, at3, at4, put1, put2, put3, put4, hp]
  · simp only [drawFn, Ss.hd,  List.map_cons, List.map_nil, List.replicate, List.cons_append, List.nil_append, evSs, evS, evE, evEs, opd, slotOf, Es.slots, bindR_ok, bindR_ex, bl_ok, setS, snap_d, snap_l, p_add, p_sub, p_mul, p_mod, p_div, p_pow18, p_lt, p_le, p_gt, p_ge, p_eq, p_ne, p_ixL, p_ixT, p_neg, p_lenL, p_lenT, p_int, p_abs, p_min, p_max, List.getD_cons_zero, List.getD_cons_succ, List.getD_nil, List.set_cons_zero, List.set_cons_succ, List.length_cons, List.length_nil, List.length_set, Option.map_some, decide_eq_true_eq, decide_true, decide_false, if_true, if_false, and_self, fin_rt, fin_nx, outsOf, Bool.false_eq_true, Nat.reduceSub, Nat.reduceAdd, Nat.reduceLT, Int.reduceNeg, Int.reducePow, Int.reduceLT, or_true, true_or, at0, at1, at2, at3, at4, put1, put2, put3, put4, b0]
theorem head_yes (C : Cl) (is : Nat → Nat → Bool) (s c n : Int) (cells : List Int) (j : Nat) (hj : j < cells.length) :
    ∃ b' s' x, (0 < b' ∨ b' = 0) ∧ evS C is drawFn.body.hd [some (.l [.lst (cells.map .int), .int j, .int 0, .int s, .int c]), some (.d (.int n)), none, none, none] = .ok .nx [some (.l [.lst (cells.map .int), .int (j + 1), .int b', .int s', .int c]), some (.d (.int n)), none, x, none] := by
  have ex : L2.atI (cells.map D.int) (j : Int) = some (.int cells[j]) := by
    refine L2.atI_nat ?_
    rw [List.getElem?_map, List.getElem?_eq_getElem hj]
    rfl
  have hlt : (j : Int) < ((cells.map D.int).length : Int) := by rw [List.length_map]; omega
  by_cases hb : (1000000000000000000 : Int) ≤ cells[j]
  · refine ⟨cells[j], s, some (.d (.int cells[j])), .inl (by omega), ?_⟩
    simp only [drawFn, Ss.hd,  List.map_cons, List.map_nil, List.replicate, List.cons_append, List.nil_append, evSs, evS, evE, evEs, opd, slotOf, Es.slots, bindR_ok, bindR_ex, bl_ok, setS, snap_d, snap_l, p_add, p_sub, p_mul, p_mod, p_div, p_pow18, p_lt, p_le, p_gt, p_ge, p_eq, p_ne, p_ixL, p_ixT, p_neg, p_lenL, p_lenT, p_int, p_abs, p_min, p_max, List.getD_cons_zero, List.getD_cons_succ, List.getD_nil, List.set_cons_zero, List.set_cons_succ, List.length_cons, List.length_nil, List.length_set, Option.map_some, decide_eq_true_eq, decide_true, decide_false, if_true, if_false, and_self, fin_rt, fin_nx, outsOf, Bool.false_eq_true, Nat.reduceSub, Nat.reduceAdd, Nat.reduceLT, Int.reduceNeg, Int.reducePow, Int.reduceLT, or_true, true_or, at0, at1, at2, at3, at4, put1, put2, put3, put4, ex, hlt, hb]
  · refine ⟨0, (s * 69621 + cells[j] * 40692 + (j + 1)) % 2147483647, some (.d (.int cells[j])), .inr rfl, ?_⟩
    simp only [drawFn, Ss.hd,  List.map_cons, List.map_nil, List.replicate, List.cons_append, List.nil_append, evSs, evS, evE, evEs, opd, slotOf, Es.slots, bindR_ok, bindR_ex, bl_ok, setS, snap_d, snap_l, p_add, p_sub, p_mul, p_mod, p_div, p_pow18, p_lt, p_le, p_gt, p_ge, p_eq, p_ne, p_ixL, p_ixT, p_neg, p_lenL, p_lenT, p_int, p_abs, p_min, p_max, List.getD_cons_zero, List.getD_cons_succ, List.getD_nil, List.set_cons_zero, List.set_cons_succ, List.length_cons, List.length_nil, List.length_set, Option.map_some, decide_eq_true_eq, decide_true, decide_false, if_true, if_false, and_self, fin_rt, fin_nx, outsOf, Bool.false_eq_true, Nat.reduceSub, Nat.reduceAdd, Nat.reduceLT, Int.reduceNeg, Int.reducePow, Int.reduceLT, or_true, true_or, at0, at1, at2, at3, at4, put1, put2, put3, put4, ex, hlt, hb]
theorem fin_cons {o : Option T} {t : T} {env : Env} : fin [0] (.ok (.rt t) (o :: env)) = .ok t [o] := (rfl)
/-- a die as it lies: cells, place, .. -/
def Die (ds : List D) : Prop := ∃ (cells : List Int) (p b s c : Int), ds = [.lst (cells.map .int), .int p, .int b, .int s, .int c] ∧ 0 ≤ p
/-- a draw gives one of n digits -/
theorem draw_ok (C : Cl) (is : Nat → Nat → Bool) {ds : List D} {n : Int} (h : Die ds) (hn : 0 < n) (hm : n < 1073741824) :
    ∃ r ds', 0 ≤ r ∧ r < n ∧ Die ds' ∧ runF C is drawFn [.l ds, .d (.int n)] = .ok (.d (.int r)) [some (.l ds')] := by
  obtain ⟨cells, p, b, s, c, rfl, hp⟩ := h
  have tail : ∀ (p b s c : Int) (x : Option T), 0 ≤ p → ∃ r ds' env', 0 ≤ r ∧ r < n ∧ Die ds' ∧ evSs C is drawFn.body.tl [some (.l [.lst (cells.map .int), .int p, .int b, .int s, .int c]), some (.d (.int n)), none, x, none] = .ok (.rt (.d (.int r))) (some (.l ds') :: env') := fun p b s c x hp => by
    by_cases h1 : 0 < b
    · obtain ⟨env', e⟩ := tail_big C is p b s c n (cells.map .int) x h1 hn hm
      exact ⟨_, _, env', Int.emod_nonneg _ (by omega), Int.emod_lt_of_pos _ hn, ⟨cells, p, b / n, s, c, rfl, hp⟩, e⟩
    · obtain ⟨r, s', env', a1, a2, e⟩ := tail_mix C is p b s c n (cells.map .int) x h1 hn hm
      exact ⟨r, _, env', a1, a2, ⟨cells, p, b, s', c + 1, rfl, hp⟩, e⟩
  have body : drawFn.body = .cons drawFn.body.hd drawFn.body.tl := rfl
  by_cases h0 : b = 0 ∧ p < cells.length
  · obtain ⟨rfl, hlt⟩ := h0
    obtain ⟨j, rfl⟩ : ∃ j : Nat, p = j := ⟨p.toNat, by omega⟩
    obtain ⟨b', s', x, _, e⟩ := head_yes C is s c n cells j (by omega)
    obtain ⟨r, ds', env', a1, a2, a3, e2⟩ := tail (j + 1) b' s' c x (by omega)
    refine ⟨r, ds', a1, a2, a3, ?_⟩
    rw [runF_eq rfl rfl, body]
    show fin [0] (evSs C is (.cons drawFn.body.hd drawFn.body.tl) [_, _, none, none, none]) = _
    rw [evSs_nx e, e2]
    rfl
  · obtain ⟨r, ds', env', a1, a2, a3, e2⟩ := tail p b s c none hp
    refine ⟨r, ds', a1, a2, a3, ?_⟩
    rw [runF_eq rfl rfl, body]
    show fin [0] (evSs C is (.cons drawFn.body.hd drawFn.body.tl) [_, _, none, none, none]) = _
    rw [evSs_nx (head_no C is p b s c n (cells.map .int) (by rw [List.length_map]; exact h0)), e2]
    rfl
end AM

set_option maxHeartbeats 8000000
/-! loops, calls, the dice made -/
namespace AM
open PySem
theorem lcL_map {b : D → Env → R (Option D)} {f : D → D} {env : Env} : ∀ (ds acc : List D), (∀ d ∈ ds, b d env = .ok (some (f d)) env) → acc.length + ds.length ≤ sizeLine → lcL b ds acc env = .ok (acc ++ ds.map f) env
  | [], acc, _, _ => by simp [lcL]
  | d :: ds, acc, h, hz => by
    unfold lcL
    rw [h d List.mem_cons_self]
    rw [List.length_cons] at hz
    show (if acc.length < sizeLine then lcL b ds (acc ++ [f d]) env else .no) = _
    rw [if_pos (by omega), lcL_map ds (acc ++ [f d]) (fun e he => h e (List.mem_cons_of_mem _ he)) (by rw [List.length_append, List.length_singleton]; omega)]
    simp
/-- turns that change what lies in the slots -/
theorem lcL_inv {b : D → Env → R (Option D)} (I : List D → Env → Prop) : ∀ (ds acc : List D) (env : Env), (∀ d ∈ ds, ∀ acc env, I acc env → ∃ x env', b d env = .ok (some x) env' ∧ I (acc ++ [x]) env') → I acc env → acc.length + ds.length ≤ sizeLine →
    ∃ out env', lcL b ds acc env = .ok out env' ∧ I out env' ∧ out.length = acc.length + ds.length
  | [], acc, env, _, i, _ => ⟨acc, env, by simp [lcL], i, by simp⟩
  | d :: ds, acc, env, h, i, hz => by
    obtain ⟨x, env', e, i'⟩ := h d List.mem_cons_self acc env i
    rw [List.length_cons] at hz
    obtain ⟨out, env2, e2, i2, l2⟩ := lcL_inv I ds (acc ++ [x]) env' (fun d' hd' => h d' (List.mem_cons_of_mem _ hd')) i' (by rw [List.length_append, List.length_singleton]; omega)
    refine ⟨out, env2, ?_, i2, by rw [l2, List.length_append, List.length_singleton, List.length_cons]; omega⟩
    unfold lcL
    rw [e]
    show (if acc.length < sizeLine then lcL b ds (acc ++ [x]) env' else .no) = _
    rw [if_pos (by omega), e2]
theorem forL_inv {b : D → Env → R Fl} (I : Nat → Env → Prop) : ∀ (ds : List D) (n : Nat) (env : Env), (∀ (i : Nat) d env, ds[i]? = some d → I (n + i) env → ∃ env', b d env = .ok .nx env' ∧ I (n + i + 1) env') → I n env → ∃ env', forL b ds env = .ok .nx env' ∧ I (n + ds.length) env'
  | [], n, env, _, i => ⟨env, rfl, i⟩
  | d :: ds, n, env, h, i => by
    obtain ⟨env', e, i'⟩ := h 0 d env rfl i
    obtain ⟨env2, e2, i2⟩ := forL_inv I ds (n + 1) env' (fun j d' env hd hi => by
      have := h (j + 1) d' env (by simpa using hd) (by rw [show n + (j + 1) = n + 1 + j by omega]; exact hi)
      rw [show n + (j + 1) + 1 = n + 1 + j + 1 by omega] at this
      exact this) i'
    refine ⟨env2, ?_, by rw [List.length_cons, show n + (ds.length + 1) = n + 1 + ds.length by omega]; exact i2⟩
    unfold forL
    rw [e]
    exact e2
theorem callK_pure {C : Cl} {f : Nat} {sl : List (Option Nat)} {ts : List T} {env : Env} {t : T} {outs : Env} (h1 : C.io f = []) (h2 : ioOk [] sl = true) (h : C.call f ts = .ok t outs) : callK C f sl ts env = .ok t env := by
  unfold callK
  rw [h1, h2, h]
  rfl
theorem callK_ex {C : Cl} {f : Nat} {sl : List (Option Nat)} {ts : List T} {env : Env} {t : X} {outs : Env} (h1 : C.io f = []) (h2 : ioOk [] sl = true) (h : C.call f ts = .ex t outs) : callK C f sl ts env = .ex t env := by
  unfold callK
  rw [h1, h2, h]
  rfl
/-- the first parameter is changed: slot i -/
theorem callK_io {C : Cl} {f i : Nat} {sl : List (Option Nat)} {ts : List T} {env : Env} {t : T} {o : Option T} (h1 : C.io f = [0]) (h2 : ioOk [0] (some i :: sl) = true) (h : C.call f ts = .ok t [o]) : callK C f (some i :: sl) ts env = .ok t (env.set i o) := by
  unfold callK
  rw [h1, h2, h]
  rfl
theorem call_eq {P : Tx} {k f : Nat} {fn : Fn} {ts : List T} (h : P.fns[f]? = some fn) (ho : fn.obj = none := by rfl) (hl : fn.low = false := by rfl) : P.call (k + 1) f ts = runF ⟨P.call k, P.io, P.glob⟩ P.isa fn ts := by
  rw [Tx.call_succ, h]
  simp only [ho, hl]
theorem cut63 (ns : List Int) (h : ns.length ≤ 63) : slF (.lst (ns.map .int)) none (some 63) = some (.l (ns.map .int)) := by
  show some (T.l (cutG (ns.map D.int) none (some 63))) = _
  have e1 : HT.sIx (ns.map D.int).length 0 none = 0 := rfl
  have e2 : HT.sIx (ns.map D.int).length (ns.map D.int).length (some 63) = min 63 (ns.map D.int).length := rfl
  unfold cutG
  rw [e1, e2, List.drop_zero, Nat.sub_zero, List.take_of_length_le (by rw [List.length_map]; omega)]
theorem dice_ok (C : Cl) (is : Nat → Nat → Bool) {ns : List Int} (h : ns.length ≤ 63) : ∃ ds, Die ds ∧ runF C is diceFn [.d (.lst (ns.map .int))] = .ok (.l ds) [] := by
  refine ⟨_, ⟨ns.map fun i => if i < 0 then -i else i, 0, 0, 1, 0, rfl, Int.le_refl 0⟩, ?_⟩
  rw [runF_eq rfl rfl]
  have lc : ∀ (p : Pt) (own : List Nat) (env : Env) (b : D → Env → R (Option D)), (∀ i, b (.int i) env = .ok (some (.int (if i < 0 then -i else i))) env) → lcL b (ns.map .int) [] env = .ok ((ns.map fun i => if i < 0 then -i else i).map .int) env := fun p own env b hb => by
    have := lcL_map (b := b) (f := fun d => match d with | .int i => .int (if i < 0 then -i else i) | d => d) (env := env) (ns.map .int) [] (fun d hd => by
      obtain ⟨i, _, rfl⟩ := List.mem_map.mp hd
      exact hb i) (by rw [List.length_map]; exact Nat.le_trans (by simpa using h) (small_le (by decide)))
    rw [this, List.nil_append, List.map_map, List.map_map]
    rfl
  simp only [diceFn, List.map_cons, List.map_nil, List.replicate, List.cons_append, List.nil_append, evSs, evS, evE, evEs, opd, slotOf, Es.slots, bindR_ok, bindR_ex, bl_ok, setS, snap_d, snap_l, p_add, p_sub, p_mul, p_mod, p_div, p_pow18, p_lt, p_le, p_gt, p_ge, p_eq, p_ne, p_ixL, p_ixT, p_neg, p_lenL, p_lenT, p_int, p_abs, p_min, p_max, List.getD_cons_zero, List.getD_cons_succ, List.getD_nil, List.set_cons_zero, List.set_cons_succ, List.length_cons, List.length_nil, List.length_set, Option.map_some, decide_eq_true_eq, decide_true, decide_false, if_true, if_false, and_self, fin_rt, fin_nx, outsOf, Bool.false_eq_true, Nat.reduceSub, Nat.reduceAdd, Nat.reduceLT, Int.reduceNeg, Int.reducePow, Int.reduceLT, or_true, true_or, at0, at1, at2, at3, at4, put1, put2, put3, put4, evI, evP, evO, evA, slR, items, It.lk, ownIx, wipeE, backE, Option.toList, bindPt, bindPts, Es.lk, p_lst, p_tup, p_tupL, p_tupT, p_listL, p_listT, p_addT, p_addL, p_dic, List.append_nil, Bool.true_and, Bool.and_true, Bool.not_true, Bool.not_false, cut63 ns h]
  rw [lc (.name 1) [] _ _ fun i => rfl]
  simp only [List.map_cons, List.map_nil, List.replicate, List.cons_append, List.nil_append, evSs, evS, evE, evEs, opd, slotOf, Es.slots, bindR_ok, bindR_ex, bl_ok, setS, snap_d, snap_l, p_add, p_sub, p_mul, p_mod, p_div, p_pow18, p_lt, p_le, p_gt, p_ge, p_eq, p_ne, p_ixL, p_ixT, p_neg, p_lenL, p_lenT, p_int, p_abs, p_min, p_max, List.getD_cons_zero, List.getD_cons_succ, List.getD_nil, List.set_cons_zero, List.set_cons_succ, List.length_cons, List.length_nil, List.length_set, Option.map_some, decide_eq_true_eq, decide_true, decide_false, if_true, if_false, and_self, fin_rt, fin_nx, outsOf, Bool.false_eq_true, Nat.reduceSub, Nat.reduceAdd, Nat.reduceLT, Int.reduceNeg, Int.reducePow, Int.reduceLT, or_true, true_or, at0, at1, at2, at3, at4, put1, put2, put3, put4, evI, evP, evO, evA, slR, items, It.lk, ownIx, wipeE, backE, Option.toList, bindPt, bindPts, Es.lk, p_lst, p_tup, p_tupL, p_tupT, p_listL, p_listT, p_addT, p_addL, p_dic, List.append_nil, Bool.true_and, Bool.and_true, Bool.not_true, Bool.not_false, small_le (show 5 ≤ 1000000 by decide)]
def S.foP : S → Pt
  | .fo p _ _ => p
  | _ => .name 0
def S.foI : S → It
  | .fo _ i _ => i
  | _ => .rng .nil
def S.foB : S → Ss
  | .fo _ _ b => b
  | _ => .nil
/-- a turn of a for -/
def turn (C : Cl) (is : Nat → Nat → Bool) (p : Pt) (b : Ss) (d : D) (env1 : Env) : R Fl := match bindPt p d env1 with
  | none => .no
  | some env2 => evSs C is b env2
theorem evS_fo {C : Cl} {is : Nat → Nat → Bool} {p : Pt} {it : It} {b : Ss} {env env0 env9 : Env} {ds : List D} (ha : apart it.lk (p.slots ++ b.asg) = true) (hi : evI C it env = .ok ds env0) (hl : forL (turn C is p b) ds (wipeE env0 it.lk) = .ok .nx env9) :
    evS C is (.fo p it b) env = .ok .nx (backE env9 env0 it.lk) := by
  unfold evS
  rw [ha, hi]
  show ((forL (turn C is p b) ds (wipeE env0 it.lk)).bind fun (f : Fl) env9 => match f with
          | .rt t => (R.ok (.rt t) (backE env9 env0 it.lk) : R Fl)
          | _ => .ok .nx (backE env9 env0 it.lk)) = _
  rw [hl]
  rfl
end AM

set_option maxHeartbeats 8000000
/-! what holds behind a run -/
namespace AM
open PySem
/-- a mark: what bears it is not looked into -/
inductive Tag {α : Type} (a : α) : Type where
  | mk
def R.bi {α β : Type} (r : R α) (f : α → Env → R β) (_ : Tag f := .mk) : R β := r.bind f
def cnd {α : Type} (k : Bool) (x y : α) (_ : Tag x := .mk) (_ : Tag y := .mk) : α := cond k x y
def thn (f : Fl) (r : R Fl) (env : Env) (_ : Tag r := .mk) : R Fl := match f with
  | .nx => r
  | f => .ok f env
@[irreducible] def R.wp {α : Type} (r : R α) (Q : α → Env → Prop) (E : X → Env → Prop) (_ : Tag Q := .mk) (_ : Tag E := .mk) : Prop := match r with
  | .ok a env => Q a env
  | .ex x env => E x env
  | .no => False
theorem wp_ok {α : Type} (a : α) (env : Env) (Q : α → Env → Prop) (E : X → Env → Prop) : (R.ok a env).wp Q E = Q a env := by unfold R.wp; rfl
theorem wp_ex {α : Type} (x : X) (env : Env) (Q : α → Env → Prop) (E : X → Env → Prop) : (R.ex x env : R α).wp Q E = E x env := by unfold R.wp; rfl
theorem wp_no {α : Type} (Q : α → Env → Prop) (E : X → Env → Prop) : (R.no : R α).wp Q E = False := by unfold R.wp; rfl
theorem wp_bind0 {α β : Type} (r : R α) (f : α → Env → R β) (Q : β → Env → Prop) (E : X → Env → Prop) : (r.bind f).wp Q E = r.wp (fun a env => (f a env).wp Q E) E := by
  cases r <;> simp only [R.bind, wp_ok, wp_ex, wp_no]
theorem wp_bind {α β : Type} (r : R α) (f : α → Env → R β) (Q : β → Env → Prop) (E : X → Env → Prop) : (r.bi f).wp Q E = r.wp (fun a env => (f a env).wp Q E) E := wp_bind0 r f Q E
theorem bnd_ok {α β : Type} (a : α) (env : Env) (f : α → Env → R β) : (R.ok a env).bi f = f a env := (rfl)
theorem bnd_ex {α β : Type} (x : X) (env : Env) (f : α → Env → R β) : (R.ex x env : R α).bi f = .ex x env := (rfl)
theorem wp_mono {α : Type} {r : R α} {Q Q' : α → Env → Prop} {E E' : X → Env → Prop} (h : r.wp Q E) (hq : ∀ a env, Q a env → Q' a env) (he : ∀ x env, E x env → E' x env) : r.wp Q' E' := by
  cases r with
  | ok a env => rw [wp_ok] at h ⊢; exact hq _ _ h
  | ex x env => rw [wp_ex] at h ⊢; exact he _ _ h
  | no => rw [wp_no] at h; exact h.elim
theorem wp_of {α : Type} {r : R α} {a : α} {env : Env} {Q : α → Env → Prop} {E : X → Env → Prop} (h : r = .ok a env) (hq : Q a env) : r.wp Q E := by rw [h, wp_ok]; exact hq
theorem wp_ofx {α : Type} {r : R α} {x : X} {env : Env} {Q : α → Env → Prop} {E : X → Env → Prop} (h : r = .ex x env) (hq : E x env) : r.wp Q E := by rw [h, wp_ex]; exact hq
theorem wp_get {α : Type} {r : R α} {Q : α → Env → Prop} (h : r.wp Q fun _ _ => False) : ∃ a env, r = .ok a env ∧ Q a env := by
  cases r with
  | ok a env => rw [wp_ok] at h; exact ⟨a, env, rfl, h⟩
  | ex x env => rw [wp_ex] at h; exact h.elim
  | no => rw [wp_no] at h; exact h.elim
theorem wp_cond {α : Type} {k : Bool} {x y : R α} {Q : α → Env → Prop} {E : X → Env → Prop} (h1 : k = true → x.wp Q E) (h2 : k = false → y.wp Q E) : (cnd k x y).wp Q E := by
  cases k
  · exact h2 rfl
  · exact h1 rfl
theorem cond_t {α : Type} (x y : α) : cnd true x y = x := (rfl)
theorem cond_f {α : Type} (x y : α) : cnd false x y = y := (rfl)
section
variable (C : Cl) (is : Nat → Nat → Bool)
/-! ### expressions, one by one; comprehensions and loops have rules of their own -/
theorem e_cst (d : D) (env : Env) : evE C (.cst d) env = .ok (.d d) env := by rw [evE]
theorem e_glob {x : Str} {d : D} (env : Env) (h : C.glob x = some d) : evE C (.glob x) env = .ok (.d d) env := by rw [evE, h]
def varR (o : Option T) (env : Env) : R T := match o with
  | some (.d d) => .ok (.d d) env
  | _ => .no
theorem varR_d (d : D) (env : Env) : varR (some (.d d)) env = .ok (.d d) env := (rfl)
theorem e_var (i : Nat) (env : Env) : evE C (.var i) env = varR (env.getD i none) env := by rw [evE]; rfl
def someR {α : Type} (o : Option α) (env : Env) : R α := match o with
  | some t => .ok t env
  | none => .no
theorem someR_s {α : Type} (a : α) (env : Env) : someR (some a) env = .ok a env := (rfl)
theorem e_prim0 (p : Prim) (es : Es) (env : Env) : evE C (.prim p es) env = (evEs C es env).bind fun ds env' => someR (primF p ds) env' := by
  rw [evE]; congr 1; funext ds env'; cases primF p ds <;> rfl
theorem e_prim (p : Prim) (es : Es) (env : Env) : evE C (.prim p es) env = (evEs C es env).bi fun ds env' => someR (primF p ds) env' := by
  apply e_prim0
theorem e_sl0 (x : E) (lo hi : Oe) (env : Env) (h : slotOf x = none) : evE C (.sl x lo hi) env = (evE C x env).bind fun t env0 => (evP C lo env0).bind fun l env1 => (evP C hi env1).bind fun h env2 => slR t.snap l h env2 := by rw [evE, h]
theorem e_sl (x : E) (lo hi : Oe) (env : Env) (h : slotOf x = none) : evE C (.sl x lo hi) env = (evE C x env).bi fun t env0 => (evP C lo env0).bi fun l env1 => (evP C hi env1).bi fun h env2 => slR t.snap l h env2 := by
  apply e_sl0 <;> assumption
theorem e_slv0 (i : Nat) (lo hi : Oe) (env : Env) (hx : (env.getD i none).isSome = true) : evE C (.sl (.vw i) lo hi) env = (evP C lo env).bind fun l env1 => (evP C hi env1).bind fun h env2 => (someR (env2.getD i none) env2).bind fun t env2 => slR t.snap l h env2 := by
  obtain ⟨t, ht⟩ := Option.isSome_iff_exists.mp hx
  rw [evE]
  show (match env.getD i none with
      | some _ => _
      | none => _) = _
  rw [ht]
  show R.bind _ _ = R.bind _ _
  congr 1; funext l env1; congr 1; funext h env2
  cases env2.getD i none <;> rfl
theorem e_slv (i : Nat) (lo hi : Oe) (env : Env) (hx : (env.getD i none).isSome = true) : evE C (.sl (.vw i) lo hi) env = (evP C lo env).bi fun l env1 => (evP C hi env1).bi fun h env2 => (someR (env2.getD i none) env2).bi fun t env2 => slR t.snap l h env2 := by
  apply e_slv0 <;> assumption
theorem e_and0 (a b : E) (env : Env) : evE C (.and a b) env = ((evE C a env).bl).bind fun c env' => cond c (evE C b env') (.ok (.d (.bl false)) env') := by
  rw [evE] <;> congr 1
theorem e_and (a b : E) (env : Env) : evE C (.and a b) env = ((evE C a env).bl).bi fun c env' => cnd c (evE C b env') (.ok (.d (.bl false)) env') := by
  apply e_and0
theorem e_or0 (a b : E) (env : Env) : evE C (.or a b) env = ((evE C a env).bl).bind fun c env' => cond c (.ok (.d (.bl true)) env') (evE C b env') := by
  rw [evE] <;> congr 1
theorem e_or (a b : E) (env : Env) : evE C (.or a b) env = ((evE C a env).bl).bi fun c env' => cnd c (.ok (.d (.bl true)) env') (evE C b env') := by
  apply e_or0
theorem e_one (a : E) (env : Env) : evE C (.one a) env = evE C a env := by rw [evE]
theorem e_not0 (a : E) (env : Env) : evE C (.not a) env = ((evE C a env).bl).bind fun c env' => .ok (.d (.bl (!c))) env' := by rw [evE]
theorem e_not (a : E) (env : Env) : evE C (.not a) env = ((evE C a env).bl).bi fun c env' => .ok (.d (.bl (!c))) env' := by
  apply e_not0
theorem e_tru0 (a : E) (env : Env) : evE C (.tru a) env = (opd (slotOf a) (evE C a) env).bind fun d env' => (someR (truF d) env').bind fun b env' => .ok (.d (.bl b)) env' := by
  rw [evE]; congr 1; funext d env'; cases truF d <;> rfl
theorem e_tru (a : E) (env : Env) : evE C (.tru a) env = (opd (slotOf a) (evE C a) env).bi fun d env' => (someR (truF d) env').bi fun b env' => .ok (.d (.bl b)) env' := by
  apply e_tru0
theorem e_ife0 (c a b : E) (env : Env) : evE C (.ife c a b) env = ((evE C c env).bl).bind fun k env' => cond k (evE C a env') (evE C b env') := by
  rw [evE] <;> congr 1
theorem e_ife (c a b : E) (env : Env) : evE C (.ife c a b) env = ((evE C c env).bl).bi fun k env' => cnd k (evE C a env') (evE C b env') := by
  apply e_ife0
theorem e_chain0 (o1 o2 : CmpOp) (a b c : E) (env : Env) : evE C (.chain o1 o2 a b c) env = (evE C a env).bind fun x env1 => (evE C b env1).bind fun y env2 => (someR (cmpF o1 x.snap y.snap) env2).bind fun k env2 => cond k ((evE C c env2).bind fun z env3 => (someR (cmpF o2 y.snap z.snap) env3).bind fun k env3 => .ok (.d (.bl k)) env3) (.ok (.d (.bl false)) env2) := by
  rw [evE]; congr 1; funext x env1; congr 1; funext y env2
  cases cmpF o1 x.snap y.snap with
  | none => rfl
  | some k => cases k with
    | false => rfl
    | true =>
      show R.bind _ _ = R.bind _ _
      congr 1; funext z env3
      cases cmpF o2 y.snap z.snap <;> rfl
theorem e_chain (o1 o2 : CmpOp) (a b c : E) (env : Env) : evE C (.chain o1 o2 a b c) env = (evE C a env).bi fun x env1 => (evE C b env1).bi fun y env2 => (someR (cmpF o1 x.snap y.snap) env2).bi fun k env2 => cnd k ((evE C c env2).bi fun z env3 => (someR (cmpF o2 y.snap z.snap) env3).bi fun k env3 => .ok (.d (.bl k)) env3) (.ok (.d (.bl false)) env2) := by
  apply e_chain0
theorem e_call0 (f : Nat) (es : Es) (env : Env) : evE C (.call f es) env = (evA C es env).bind fun ts env' => callK C f es.slots ts env' := by rw [evE]
theorem e_call (f : Nat) (es : Es) (env : Env) : evE C (.call f es) env = (evA C es env).bi fun ts env' => callK C f es.slots ts env' := by
  apply e_call0
theorem s_nil : Es.slots .nil = [] := (rfl)
theorem s_cons (e : E) (es : Es) : Es.slots (.cons e es) = slotOf e :: es.slots := by rw [Es.slots]
theorem o_no (env : Env) : evO C .no env = .ok true env := by rw [evO]
theorem o_yes (c : E) (env : Env) : evO C (.yes c) env = (evE C c env).bl := by rw [evO]
def intR (t : T) (env : Env) : R (Option Int) := match t with
    | .d (.int i) => .ok (some i) env
    | _ => .no
theorem intR_i (i : Int) (env : Env) : intR (.d (.int i)) env = .ok (some i) env := (rfl)
theorem pt_no (env : Env) : evP C .no env = .ok none env := by rw [evP]
theorem pt_yes0 (c : E) (env : Env) : evP C (.yes c) env = (evE C c env).bind intR := by rw [evP]; rfl
theorem pt_yes (c : E) (env : Env) : evP C (.yes c) env = (evE C c env).bi intR := by
  apply pt_yes0
theorem es_nil (env : Env) : evEs C .nil env = .ok [] env := by rw [evEs]
theorem es_val0 {e : E} (es : Es) (env : Env) (h : slotOf e = none) : evEs C (.cons e es) env = (evE C e env).bind fun t env' => (evEs C es env').bind fun ds env'' => .ok (t.snap :: ds) env'' := by rw [evEs, h]
theorem es_val {e : E} (es : Es) (env : Env) (h : slotOf e = none) : evEs C (.cons e es) env = (evE C e env).bi fun t env' => (evEs C es env').bi fun ds env'' => .ok (t.snap :: ds) env'' := by
  apply es_val0 <;> assumption
theorem es_vw0 (i : Nat) (es : Es) (env : Env) (hx : (env.getD i none).isSome = true) : evEs C (.cons (.vw i) es) env = (evEs C es env).bind fun ds env' => (someR (env'.getD i none) env').bind fun t env' => .ok (t.snap :: ds) env' := by
  obtain ⟨t, ht⟩ := Option.isSome_iff_exists.mp hx
  rw [evEs]
  show (match env.getD i none with
      | some _ => _
      | none => _) = _
  rw [ht]
  show R.bind _ _ = R.bind _ _
  congr 1; funext ds env'
  cases env'.getD i none <;> rfl
theorem es_vw (i : Nat) (es : Es) (env : Env) (hx : (env.getD i none).isSome = true) : evEs C (.cons (.vw i) es) env = (evEs C es env).bi fun ds env' => (someR (env'.getD i none) env').bi fun t env' => .ok (t.snap :: ds) env' := by
  apply es_vw0 <;> assumption
theorem a_nil (env : Env) : evA C .nil env = .ok [] env := by rw [evA]
theorem a_val0 {e : E} (es : Es) (env : Env) (h : slotOf e = none) : evA C (.cons e es) env = (evE C e env).bind fun t env' => (evA C es env').bind fun ds env'' => .ok (.d t.snap :: ds) env'' := by rw [evA, h]
theorem a_val {e : E} (es : Es) (env : Env) (h : slotOf e = none) : evA C (.cons e es) env = (evE C e env).bi fun t env' => (evA C es env').bi fun ds env'' => .ok (.d t.snap :: ds) env'' := by
  apply a_val0 <;> assumption
theorem a_vw0 (i : Nat) (es : Es) (env : Env) (hx : (env.getD i none).isSome = true) : evA C (.cons (.vw i) es) env = (evA C es env).bind fun ds env' => (someR (env'.getD i none) env').bind fun t env' => .ok (t :: ds) env' := by
  obtain ⟨t, ht⟩ := Option.isSome_iff_exists.mp hx
  rw [evA]
  show (match env.getD i none with
      | some _ => _
      | none => _) = _
  rw [ht]
  show R.bind _ _ = R.bind _ _
  congr 1; funext ds env'
  cases env'.getD i none <;> rfl
theorem a_vw (i : Nat) (es : Es) (env : Env) (hx : (env.getD i none).isSome = true) : evA C (.cons (.vw i) es) env = (evA C es env).bi fun ds env' => (someR (env'.getD i none) env').bi fun t env' => .ok (t :: ds) env' := by
  apply a_vw0 <;> assumption
theorem it_seq0 (e : E) (env : Env) : evI C (.seq e) env = (opd (slotOf e) (evE C e) env).bind fun d env' => someR (items d) env' := by
  rw [evI]; congr 1; funext d env'; cases items d <;> rfl
theorem it_seq (e : E) (env : Env) : evI C (.seq e) env = (opd (slotOf e) (evE C e) env).bi fun d env' => someR (items d) env' := by
  apply it_seq0
theorem it_rng0 (es : Es) (env : Env) : evI C (.rng es) env = (evEs C es env).bind fun ds env' => someR (rngF ds) env' := by
  rw [evI]; congr 1; funext ds env'; cases rngF ds <;> rfl
theorem it_rng (es : Es) (env : Env) : evI C (.rng es) env = (evEs C es env).bi fun ds env' => someR (rngF ds) env' := by
  apply it_rng0
def enumR (d : D) (env : Env) : R (List D) := match d with
    | .lst ds => .ok (enumF ds) env
    | _ => .no
theorem it_enum0 (e : E) (env : Env) : evI C (.enum e) env = (opd (slotOf e) (evE C e) env).bind enumR := by rw [evI]; rfl
theorem it_enum (e : E) (env : Env) : evI C (.enum e) env = (opd (slotOf e) (evE C e) env).bi enumR := by
  apply it_enum0
theorem opd_n0 (f : Env → R T) (env : Env) : opd none f env = (f env).bind fun t env' => .ok t.snap env' := (rfl)
theorem opd_n (f : Env → R T) (env : Env) : opd none f env = (f env).bi fun t env' => .ok t.snap env' := by
  apply opd_n0
theorem opd_s0 (i : Nat) (f : Env → R T) (env : Env) : opd (some i) f env = (someR (env.getD i none) env).bind fun t env => .ok t.snap env := by
  show (match env.getD i none with
    | some t => (R.ok t.snap env : R D)
    | none => .no) = _
  cases env.getD i none <;> rfl
theorem opd_s (i : Nat) (f : Env → R T) (env : Env) : opd (some i) f env = (someR (env.getD i none) env).bi fun t env => .ok t.snap env := by
  apply opd_s0
/-! ### statements -/
theorem t_set0 (i : Nat) (e : E) (env : Env) : evS C is (.set i e) env = (evE C e env).bind fun t env' => setS i t env' := by rw [evS]
theorem t_set (i : Nat) (e : E) (env : Env) : evS C is (.set i e) env = (evE C e env).bi fun t env' => setS i t env' := by
  apply t_set0
def bindR (p : Pt) (d : D) (env : Env) : R Fl := match bindPt p d env with
  | some env2 => .ok .nx env2
  | none => .no
theorem t_unp0 (p : Pt) (e : E) (env : Env) : evS C is (.unp p e) env = (evE C e env).bind fun t env' => bindR p t.snap env' := by rw [evS]; rfl
theorem t_unp (p : Pt) (e : E) (env : Env) : evS C is (.unp p e) env = (evE C e env).bi fun t env' => bindR p t.snap env' := by
  apply t_unp0
theorem t_par0 (i j : Nat) (a b : E) (env : Env) : evS C is (.par i j a b) env = (evE C a env).bind fun t env1 => (evE C b env1).bind fun u env2 => (setS i (.d t.snap) env2).bind fun _ env3 => setS j (.d u.snap) env3 := by rw [evS]
theorem t_par (i j : Nat) (a b : E) (env : Env) : evS C is (.par i j a b) env = (evE C a env).bi fun t env1 => (evE C b env1).bi fun u env2 => (setS i (.d t.snap) env2).bi fun _ env3 => setS j (.d u.snap) env3 := by
  apply t_par0
def ownR (o : Option T) (env : Env) : R Unit := match o with
  | some (.l _) => .ok () env
  | _ => .no
theorem ownR_l (ds : List D) (env : Env) : ownR (some (.l ds)) env = .ok () env := (rfl)
def valR (o : Option T) (env : Env) : R D := match o with
  | some (.d x) => .ok x env
  | _ => .no
theorem valR_d (d : D) (env : Env) : valR (some (.d d)) env = .ok d env := (rfl)
theorem t_setIx0 (i : Nat) (k v : E) (env : Env) : evS C is (.setIx i k v) env = (evE C v env).bind fun tv env1 => (ownR (env1.getD i none) env1).bind fun _ env1 => (evE C k env1).bind fun tk env2 => putR i tk.snap tv.snap env2 := by
  rw [evS]
  congr 1; funext tv env1
  cases env1.getD i none with
  | none => rfl
  | some t => cases t <;> rfl
theorem t_setIx (i : Nat) (k v : E) (env : Env) : evS C is (.setIx i k v) env = (evE C v env).bi fun tv env1 => (ownR (env1.getD i none) env1).bi fun _ env1 => (evE C k env1).bi fun tk env2 => putR i tk.snap tv.snap env2 := by
  apply t_setIx0
theorem t_aug0 (i : Nat) (o : Operator) (e : E) (env : Env) : evS C is (.aug i o e) env = (valR (env.getD i none) env).bind fun x env => (evE C e env).bind fun t env' => augR i o x t.snap env' := by
  rw [evS]
  cases env.getD i none with
  | none => rfl
  | some t => cases t <;> rfl
theorem t_aug (i : Nat) (o : Operator) (e : E) (env : Env) : evS C is (.aug i o e) env = (valR (env.getD i none) env).bi fun x env => (evE C e env).bi fun t env' => augR i o x t.snap env' := by
  apply t_aug0
theorem t_exp0 (e : E) (env : Env) : evS C is (.exp e) env = (evE C e env).bind fun _ env' => .ok .nx env' := by rw [evS]
theorem t_exp (e : E) (env : Env) : evS C is (.exp e) env = (evE C e env).bi fun _ env' => .ok .nx env' := by
  apply t_exp0
theorem t_app0 (i : Nat) (e : E) (env : Env) : evS C is (.app i e) env = (ownR (env.getD i none) env).bind fun _ env => (evE C e env).bind fun t env' => appR i t.snap env' := by
  rw [evS]
  cases env.getD i none with
  | none => rfl
  | some t => cases t <;> rfl
theorem t_app (i : Nat) (e : E) (env : Env) : evS C is (.app i e) env = (ownR (env.getD i none) env).bi fun _ env => (evE C e env).bi fun t env' => appR i t.snap env' := by
  apply t_app0
def frzR (o : Option T) (i : Nat) (env : Env) : R Fl := match o with
  | some t => .ok .nx (env.set i (some (.d t.snap)))
  | none => .no
theorem frzR_s (t : T) (i : Nat) (env : Env) : frzR (some t) i env = .ok .nx (env.set i (some (.d t.snap))) := (rfl)
theorem t_frz (i : Nat) (env : Env) : evS C is (.frz i) env = frzR (env.getD i none) i env := by
  rw [evS]
  cases env.getD i none <;> rfl
theorem e_pop0 (i : Nat) (es : Es) (env : Env) : evE C (.pop i es) env = (ownR (env.getD i none) env).bind fun _ env => (evEs C es env).bind fun ds env' => popR i ds env' := by
  rw [evE]
  cases env.getD i none with
  | none => rfl
  | some t => cases t <;> rfl
theorem e_pop (i : Nat) (es : Es) (env : Env) : evE C (.pop i es) env = (ownR (env.getD i none) env).bi fun _ env => (evEs C es env).bi fun ds env' => popR i ds env' := by
  apply e_pop0
theorem setS_lt (i : Nat) (t : T) (env : Env) (h : i < env.length) : setS i t env = .ok .nx (env.set i (some t)) := by
  unfold setS
  rw [if_pos h]
theorem appR_l (i : Nat) (d : D) (env : Env) : appR i d env = match env.getD i none with
  | some (.l xs) => if xs.length < sizeLine then .ok .nx (env.set i (some (.l (xs ++ [d])))) else .no
  | _ => .no := rfl
theorem t_ife0 (c : E) (a b : Ss) (env : Env) : evS C is (.ife c a b) env = ((evE C c env).bl).bind fun k env' => cond k (evSs C is a env') (evSs C is b env') := by
  rw [evS] <;> congr 1
theorem t_ife (c : E) (a b : Ss) (env : Env) : evS C is (.ife c a b) env = ((evE C c env).bl).bi fun k env' => cnd k (evSs C is a env') (evSs C is b env') := by
  apply t_ife0
theorem t_ret0 (e : E) (env : Env) : evS C is (.ret e) env = (evE C e env).bind fun t env' => .ok (.rt t) env' := by rw [evS]
theorem t_ret (e : E) (env : Env) : evS C is (.ret e) env = (evE C e env).bi fun t env' => .ok (.rt t) env' := by
  apply t_ret0
theorem t_mov0 (i : Nat) (env : Env) : evS C is (.mov i) env = (someR (env.getD i none) env).bind fun t env => .ok (.rt t) (env.set i none) := by
  rw [evS]
  cases env.getD i none <;> rfl
theorem t_mov (i : Nat) (env : Env) : evS C is (.mov i) env = (someR (env.getD i none) env).bi fun t env => .ok (.rt t) (env.set i none) := by
  apply t_mov0
def boolR (t : T) (env : Env) : R Bool := match t with
  | .d (.bl b) => .ok b env
  | _ => .no
theorem boolR_b (b : Bool) (env : Env) : boolR (.d (.bl b)) env = .ok b env := (rfl)
theorem bl_bind0 (r : R T) : r.bl = r.bind boolR := by
  unfold R.bl
  rfl
theorem bl_bind (r : R T) : r.bl = r.bi boolR := bl_bind0 r
theorem t_retN (env : Env) : evS C is .retN env = .ok (.rt (.d .non)) env := by rw [evS]
theorem t_brk (env : Env) : evS C is .brk env = .ok .bk env := by rw [evS]
theorem t_cnt (env : Env) : evS C is .cnt env = .ok .ct env := by rw [evS]
theorem t_pass (env : Env) : evS C is .pass env = .ok .nx env := by rw [evS]
theorem t_rais0 (c : Nat) (es : Es) (env : Env) : evS C is (.rais c es) env = (evEs C es env).bind fun ds env' => .ex ⟨c, ds⟩ env' := by rw [evS]
theorem t_rais (c : Nat) (es : Es) (env : Env) : evS C is (.rais c es) env = (evEs C es env).bi fun ds env' => .ex ⟨c, ds⟩ env' := by
  apply t_rais0
def thenR (f : Fl) (r : R Fl) (env : Env) : R Fl := match f with
  | .nx => r
  | f => .ok f env
theorem then_nx (r : R Fl) (env : Env) : thn .nx r env = r := (rfl)
theorem then_rt (t : T) (r : R Fl) (env : Env) : thn (.rt t) r env = .ok (.rt t) env := (rfl)
theorem then_bk (r : R Fl) (env : Env) : thn .bk r env = .ok .bk env := (rfl)
theorem then_ct (r : R Fl) (env : Env) : thn .ct r env = .ok .ct env := (rfl)
theorem b_nil (env : Env) : evSs C is .nil env = .ok .nx env := by rw [evSs]
theorem b_cons0 (s : S) (ss : Ss) (env : Env) : evSs C is (.cons s ss) env = (evS C is s env).bind fun f env' => thenR f (evSs C is ss env') env' := by
  rw [evSs] <;> congr 1
theorem b_cons (s : S) (ss : Ss) (env : Env) : evSs C is (.cons s ss) env = (evS C is s env).bi fun f env' => thn f (evSs C is ss env') env' := by
  apply b_cons0
end
/-! ### rules -/
def tryR (r : R Fl) (h : X → Env → R Fl) : R Fl := match r with
  | .ex x env' => h x env'
  | r => r
theorem t_tr (C : Cl) (is : Nat → Nat → Bool) (b : Ss) (hs : Hs) (env : Env) : evS C is (.tr b hs) env = tryR (evSs C is b env) (evHs C is hs) := by
  rw [evS]
  cases evSs C is b env <;> rfl
theorem wp_try (r : R Fl) (h : X → Env → R Fl) (Q : Fl → Env → Prop) (E : X → Env → Prop) : (tryR r h).wp Q E = r.wp Q (fun x env => (h x env).wp Q E) := by
  cases r <;> simp only [tryR, wp_ok, wp_ex, wp_no]
theorem h_nil (C : Cl) (is : Nat → Nat → Bool) (x : X) (env : Env) : evHs C is .nil x env = .ex x env := by rw [evHs]
theorem h_cons0 (C : Cl) (is : Nat → Nat → Bool) (c : Nat) (i : Option Nat) (b : Ss) (hs : Hs) (x : X) (env : Env) : evHs C is (.cons c i b hs) x env = cond (is x.c c) (evSs C is b env) (evHs C is hs x env) := by
  rw [evHs]
  cases is x.c c <;> rfl
theorem h_cons (C : Cl) (is : Nat → Nat → Bool) (c : Nat) (i : Option Nat) (b : Ss) (hs : Hs) (x : X) (env : Env) : evHs C is (.cons c i b hs) x env = cnd (is x.c c) (evSs C is b env) (evHs C is hs x env) := by
  apply h_cons0
def afterT (Q : Fl → Env → Prop) (I : Env → Prop) (bk : Env → Env) : Fl → Env → Prop
  | .nx, env => I env
  | .ct, env => I env
  | .bk, env => Q .nx (bk env)
  | .rt t, env => Q (.rt t) (bk env)
theorem after_nx (Q : Fl → Env → Prop) (I : Env → Prop) (bk : Env → Env) (env : Env) : afterT Q I bk .nx env = I env := (rfl)
theorem after_ct (Q : Fl → Env → Prop) (I : Env → Prop) (bk : Env → Env) (env : Env) : afterT Q I bk .ct env = I env := (rfl)
theorem after_bk (Q : Fl → Env → Prop) (I : Env → Prop) (bk : Env → Env) (env : Env) : afterT Q I bk .bk env = Q .nx (bk env) := (rfl)
theorem after_rt (Q : Fl → Env → Prop) (I : Env → Prop) (bk : Env → Env) (t : T) (env : Env) : afterT Q I bk (.rt t) env = Q (.rt t) (bk env) := (rfl)
theorem wp_forL {b : D → Env → R Fl} {bk : Env → Env} {Q : Fl → Env → Prop} {E : X → Env → Prop} (I : Nat → Env → Prop) : ∀ (ds : List D) (n : Nat) (env : Env), (∀ (i : Nat) d env, ds[i]? = some d → I (n + i) env → (b d env).wp (afterT Q (I (n + i + 1)) bk) E) → I n env → (∀ env, I (n + ds.length) env → Q .nx (bk env)) →
    (forL b ds env).wp (fun f env9 => match f with
      | .rt t => Q (.rt t) (bk env9)
      | _ => Q .nx (bk env9)) E
  | [], n, env, _, i, q => by
    unfold forL
    rw [wp_ok]
    exact q env i
  | d :: ds, n, env, h, i, q => by
    have h0 := h 0 d env rfl i
    unfold forL
    rw [wp_bind0]
    refine wp_mono h0 (fun f env' hf => ?_) (fun _ _ z => z)
    have rest : ∀ env', I (n + 1) env' → (forL b ds env').wp (fun f env9 => match f with
      | .rt t => Q (.rt t) (bk env9)
      | _ => Q .nx (bk env9)) E := fun env' i' => wp_forL I ds (n + 1) env' (fun j d' env hd hi => by
        have := h (j + 1) d' env (by simpa using hd) (by rw [show n + (j + 1) = n + 1 + j by omega]; exact hi)
        rw [show n + (j + 1) + 1 = n + 1 + j + 1 by omega] at this
        exact this) i' (fun env hi => q env (by rw [List.length_cons, show n + (ds.length + 1) = n + 1 + ds.length by omega]; exact hi))
    cases f with
    | nx => exact rest env' hf
    | ct => exact rest env' hf
    | bk => show (R.ok Fl.nx env').wp _ _; rw [wp_ok]; exact hf
    | rt t => show (R.ok (Fl.rt t) env').wp _ _; rw [wp_ok]; exact hf
/-- a for: I before the turns -/
theorem wp_fo {C : Cl} {is : Nat → Nat → Bool} {p : Pt} {it : It} {b : Ss} {env env0 : Env} {ds : List D} {Q : Fl → Env → Prop} {E : X → Env → Prop} (I : Nat → Env → Prop) (ha : apart it.lk (p.slots ++ b.asg) = true) (hi : evI C it env = .ok ds env0)
    (h0 : I 0 (wipeE env0 it.lk)) (hq : ∀ env, I ds.length env → Q .nx (backE env env0 it.lk)) (hs : ∀ (i : Nat) d env, ds[i]? = some d → I i env → (turn C is p b d env).wp (afterT Q (I (i + 1)) (fun env => backE env env0 it.lk)) E) : (evS C is (.fo p it b) env).wp Q E := by
  unfold evS
  rw [ha, hi]
  show ((forL (turn C is p b) ds (wipeE env0 it.lk)).bind fun (f : Fl) env9 => match f with
          | .rt t => (R.ok (.rt t) (backE env9 env0 it.lk) : R Fl)
          | _ => .ok .nx (backE env9 env0 it.lk)).wp Q E
  rw [wp_bind0]
  refine wp_mono (wp_forL (bk := fun env => backE env env0 it.lk) I ds 0 (wipeE env0 it.lk) (fun i d env hd h => by rw [Nat.zero_add] at h ⊢; exact hs i d env hd h) h0 (fun env h => hq env (by rw [Nat.zero_add] at h; exact h))) (fun f env9 h => ?_) (fun _ _ z => z)
  cases f <;> (simp only [wp_ok]; exact h)
theorem turn_n (C : Cl) (is : Nat → Nat → Bool) (i : Nat) (b : Ss) (d : D) (env : Env) (h : i < env.length) : turn C is (.name i) b d env = evSs C is b (env.set i (some (.d d))) := by
  unfold turn
  rw [bindPt, if_pos h]
theorem turn_p {C : Cl} {is : Nat → Nat → Bool} {p : Pt} {b : Ss} {d : D} {env env2 : Env} (h : bindPt p d env = some env2) : turn C is p b d env = evSs C is b env2 := by
  unfold turn
  rw [h]
/-- a comprehension's turn -/
def lcT (C : Cl) (own : List Nat) (p : Pt) (ifs : Oe) (e : E) (d : D) (env1 : Env) : R (Option D) := match bindPt p d env1 with
      | none => .no
      | some env2 => (evO C ifs env2).bind fun k env3 => cond k ((evE C e env3).bind fun t env4 => .ok (some t.snap) (wipeE env4 own)) (.ok none (wipeE env3 own))
theorem lcT_p0 {C : Cl} {own : List Nat} {p : Pt} {ifs : Oe} {e : E} {d : D} {env env2 : Env} (h : bindPt p d env = some env2) : lcT C own p ifs e d env = (evO C ifs env2).bind fun k env3 => cond k ((evE C e env3).bind fun t env4 => .ok (some t.snap) (wipeE env4 own)) (.ok none (wipeE env3 own)) := by
  unfold lcT
  rw [h]
theorem lcT_p {C : Cl} {own : List Nat} {p : Pt} {ifs : Oe} {e : E} {d : D} {env env2 : Env} (h : bindPt p d env = some env2) : lcT C own p ifs e d env = (evO C ifs env2).bi fun k env3 => cnd k ((evE C e env3).bi fun t env4 => .ok (some t.snap) (wipeE env4 own)) (.ok none (wipeE env3 own)) := by
  apply lcT_p0 <;> assumption
theorem e_lc0 (C : Cl) (own : List (Str × Nat)) (p : Pt) (it : It) (ifs : Oe) (e : E) (env : Env) : evE C (.lc own p it ifs e) env = (evI C it env).bind fun ds env0 => (lcL (lcT C (ownIx own) p ifs e) ds [] (wipeE env0 (ownIx own ++ it.lk))).bind fun out env9 => .ok (.l out) (backE env9 env0 (ownIx own ++ it.lk)) := by
  rw [evE]
  congr 1; funext ds env0; congr 2; funext d env1
  unfold lcT
  cases bindPt p d env1 with
  | none => rfl
  | some env2 =>
    show R.bind _ _ = R.bind _ _
    congr 1; funext k env3; cases k <;> rfl
theorem e_lc (C : Cl) (own : List (Str × Nat)) (p : Pt) (it : It) (ifs : Oe) (e : E) (env : Env) : evE C (.lc own p it ifs e) env = (evI C it env).bi fun ds env0 => (lcL (lcT C (ownIx own) p ifs e) ds [] (wipeE env0 (ownIx own ++ it.lk))).bi fun out env9 => .ok (.l out) (backE env9 env0 (ownIx own ++ it.lk)) := by
  apply e_lc0
def afterL (I : List D → Env → Prop) (acc : List D) : Option D → Env → Prop
  | none, env => I acc env
  | some x, env => acc.length < sizeLine ∧ I (acc ++ [x]) env
theorem after_no (I : List D → Env → Prop) (acc : List D) (env : Env) : afterL I acc none env = I acc env := (rfl)
theorem after_so (I : List D → Env → Prop) (acc : List D) (x : D) (env : Env) : afterL I acc (some x) env = (acc.length < sizeLine ∧ I (acc ++ [x]) env) := (rfl)
theorem wp_lcL {b : D → Env → R (Option D)} {Q : List D → Env → Prop} {E : X → Env → Prop} (I : Nat → List D → Env → Prop) : ∀ (ds : List D) (n : Nat) (acc : List D) (env : Env), (∀ (i : Nat) d acc env, ds[i]? = some d → I (n + i) acc env → (b d env).wp (afterL (I (n + i + 1)) acc) fun _ _ => False) → I n acc env → (∀ out env, I (n + ds.length) out env → Q out env) → (lcL b ds acc env).wp Q E
  | [], n, acc, env, _, i, q => by
    unfold lcL
    rw [wp_ok]
    exact q acc env i
  | d :: ds, n, acc, env, h, i, q => by
    obtain ⟨o, env', e, ho⟩ := wp_get (h 0 d acc env rfl i)
    have rest : ∀ acc env', I (n + 1) acc env' → (lcL b ds acc env').wp Q E := fun acc env' i' => wp_lcL I ds (n + 1) acc env' (fun j d' acc env hd hi => by
        have := h (j + 1) d' acc env (by simpa using hd) (by rw [show n + (j + 1) = n + 1 + j by omega]; exact hi)
        rw [show n + (j + 1) + 1 = n + 1 + j + 1 by omega] at this
        exact this) i' (fun out env hi => q out env (by rw [List.length_cons, show n + (ds.length + 1) = n + 1 + ds.length by omega]; exact hi))
    unfold lcL
    rw [e]
    cases o with
    | none => exact rest acc env' ho
    | some x =>
      show (if acc.length < sizeLine then lcL b ds (acc ++ [x]) env' else .no).wp Q E
      rw [if_pos ho.1]
      exact rest _ env' ho.2
/-- a comprehension: I n acc env ahead of turn n -/
theorem wp_lc {C : Cl} {own : List Nat} {p : Pt} {ifs : Oe} {e : E} {ds : List D} {env : Env} {Q : List D → Env → Prop} {E : X → Env → Prop} (I : Nat → List D → Env → Prop) (h0 : I 0 [] env) (hq : ∀ out env, I ds.length out env → Q out env) (hs : ∀ (i : Nat) d acc env, ds[i]? = some d → I i acc env → (lcT C own p ifs e d env).wp (afterL (I (i + 1)) acc) fun _ _ => False) : (lcL (lcT C own p ifs e) ds [] env).wp Q E :=
  wp_lcL I ds 0 [] env (fun i d acc env hd h => by rw [Nat.zero_add] at h ⊢; exact hs i d acc env hd h) h0 (fun out env h => hq out env (by rw [Nat.zero_add] at h; exact h))
/-- a comprehension without a change: the map -/
theorem wp_map {C : Cl} {own : List Nat} {p : Pt} {ifs : Oe} {e : E} {ds : List D} {env : Env} {Q : List D → Env → Prop} {E : X → Env → Prop} (f : D → D) (hl : ds.length ≤ 1000000) (hq : Q (ds.map f) env) (hs : ∀ d ∈ ds, (lcT C own p ifs e d env).wp (fun o env' => o = some (f d) ∧ env' = env) fun _ _ => False) : (lcL (lcT C own p ifs e) ds [] env).wp Q E := by
  refine wp_lc (fun n acc env' => env' = env ∧ acc = (ds.take n).map f ∧ n ≤ ds.length) ⟨rfl, by simp, Nat.zero_le _⟩ (fun out env' h => ?_) (fun i d acc env' hd h => ?_)
  · obtain ⟨rfl, rfl, _⟩ := h
    rw [List.take_length]; exact hq
  · obtain ⟨rfl, rfl, hn⟩ := h
    have hil := (List.getElem?_eq_some_iff.mp hd).1
    refine wp_mono (hs d (List.mem_of_getElem? hd)) (fun o env2 ⟨h1, h2⟩ => ?_) (fun _ _ z => z)
    subst h1 h2
    refine ⟨?_, rfl, ?_, hil⟩
    · rw [List.length_map, List.length_take]
      exact Nat.lt_of_lt_of_le (show _ < 1000001 by omega) (by decide)
    · rw [List.take_add_one, List.map_append, hd]; rfl
theorem wp_callK {C : Cl} {f : Nat} {sl : List (Option Nat)} {ts : List T} {env : Env} {Q : T → Env → Prop} {E : X → Env → Prop} (h1 : ioOk (C.io f) sl = true) (h : (C.call f ts).wp (fun t outs => Q t (putOuts (C.io f) outs sl env)) (fun x outs => E x (putOuts (C.io f) outs sl env))) : (callK C f sl ts env).wp Q E := by
  unfold callK
  rw [h1]
  show (match C.call f ts with
      | .ok t outs => (R.ok t (putOuts (C.io f) outs sl env) : R T)
      | .ex x outs => .ex x (putOuts (C.io f) outs sl env)
      | .no => .no).wp Q E
  cases hc : C.call f ts with
  | ok t outs => rw [hc, wp_ok] at h; simp only [wp_ok]; exact h
  | ex x outs => rw [hc, wp_ex] at h; simp only [wp_ex]; exact h
  | no => rw [hc, wp_no] at h; exact h.elim
/-- a def's run -/
def finQ (io : List Nat) (Q : T → Env → Prop) : Fl → Env → Prop
  | .nx, env => Q (.d .non) (outsOf io env)
  | .rt t, env => Q t (outsOf io env)
  | _, _ => False
theorem fin_qn (io : List Nat) (Q : T → Env → Prop) (env : Env) : finQ io Q .nx env = Q (.d .non) (outsOf io env) := (rfl)
theorem fin_qr (io : List Nat) (Q : T → Env → Prop) (t : T) (env : Env) : finQ io Q (.rt t) env = Q t (outsOf io env) := (rfl)
theorem wp_def {P : Tx} {k f : Nat} {fn : Fn} {ts : List T} {Q : T → Env → Prop} {E : X → Env → Prop} (hf : P.fns[f]? = some fn) (h1 : ts.length = fn.np) (ha : apart fn.io fn.body.asg = true) (h : (evSs ⟨P.call k, P.io, P.glob⟩ P.isa fn.body (ts.map some ++ List.replicate (fn.n - fn.np) none)).wp (finQ fn.io Q) (fun x env => E x (outsOf fn.io env))) (ho : fn.obj = none := by rfl) (hlw : fn.low = false := by rfl) : (P.call (k + 1) f ts).wp Q E := by
  rw [call_eq hf ho hlw, runF_eq h1 ha]
  cases he : evSs ⟨P.call k, P.io, P.glob⟩ P.isa fn.body (ts.map some ++ List.replicate (fn.n - fn.np) none) with
  | ok f env => rw [he, wp_ok] at h; cases f with
    | nx => rw [fin_nx, wp_ok]; exact h
    | rt t => rw [fin_rt, wp_ok]; exact h
    | bk => exact h.elim
    | ct => exact h.elim
  | ex x env => rw [he, wp_ex] at h; rw [fin_ex, wp_ex]; exact h
  | no => rw [he, wp_no] at h; exact h.elim
end AM

set_option maxHeartbeats 8000000
/-! what == looks at: strings that lie well, a depth -/
namespace AM
open PySem
def Sh (n : Nat) (d : D) : Prop := d.toP.canLay0 = true ∧ d.toP.depth ≤ n
theorem Sh.mono {n m : Nat} {d : D} (h : Sh n d) (hm : n ≤ m) : Sh m d := ⟨h.1, Nat.le_trans h.2 hm⟩
theorem sh_all {n : Nat} : ∀ {ds : List D}, (∀ d ∈ ds, Sh n d) → PyData.canLayAll0 (toPs ds) = true ∧ PyData.depthAll (toPs ds) ≤ n
  | [], _ => ⟨rfl, Nat.zero_le _⟩
  | d :: ds, h => by
    obtain ⟨h1, h2⟩ := h d List.mem_cons_self
    obtain ⟨h3, h4⟩ := sh_all (ds := ds) fun e he => h e (List.mem_cons_of_mem _ he)
    rw [toPs, PyData.canLayAll0, PyData.depthAll, h1, h3]
    exact ⟨rfl, Nat.max_le.mpr ⟨h2, h4⟩⟩
theorem sh_tup {n : Nat} {ds : List D} (h : ∀ d ∈ ds, Sh n d) : Sh (n + 1) (.tup ds) := by
  obtain ⟨h1, h2⟩ := sh_all h
  unfold Sh
  rw [D.toP, PyData.canLay0, PyData.depth]
  exact ⟨h1, Nat.succ_le_succ h2⟩
theorem sh_lst {n : Nat} {ds : List D} (h : ∀ d ∈ ds, Sh n d) : Sh (n + 1) (.lst ds) := by
  obtain ⟨h1, h2⟩ := sh_all h
  unfold Sh
  rw [D.toP, PyData.canLay0, PyData.depth]
  exact ⟨h1, Nat.succ_le_succ h2⟩
theorem sh_int (i : Int) : Sh 0 (.int i) := ⟨rfl, Nat.le_refl _⟩
theorem sh_bl (b : Bool) : Sh 0 (.bl b) := ⟨rfl, Nat.le_refl _⟩
theorem sh_non : Sh 0 .non := ⟨rfl, Nat.le_refl _⟩
theorem sh_st {x : Str} (h : PyData.strOk x = true) : Sh 0 (.str x) := ⟨h, Nat.le_refl _⟩
theorem Sh.shaped {n : Nat} {d : D} (h : Sh n d) (hn : n ≤ 64) : SeqAt.shaped d.toP = true := by
  unfold SeqAt.shaped
  rw [h.1, decide_eq_true (Nat.le_trans h.2 hn)]
  rfl
theorem eq_self {n : Nat} {d : D} (h : Sh n d) (hn : n ≤ 64) : primF (.cmp .Eq) [d, d] = some (.d (.bl true)) := by
  rw [p_eqX, eqF_by (h.shaped hn) (h.shaped hn), SeqAt.eqv_refl _ h.1]
  rfl
theorem ne_self {n : Nat} {d : D} (h : Sh n d) (hn : n ≤ 64) : primF (.cmp .NotEq) [d, d] = some (.d (.bl false)) := by
  rw [p_neX, eqF_by (h.shaped hn) (h.shaped hn), SeqAt.eqv_refl _ h.1]
  rfl
end AM
namespace AM
open PySem
theorem q_tup (ds : List D) (h : ds.length ≤ 1000000) : primF .tup ds = some (.d (.tup ds)) := by rw [p_tup, if_pos (small_le h)]
theorem q_lst (ds : List D) (h : ds.length ≤ 1000000) : primF .lst ds = some (.l ds) := by rw [p_lst, if_pos (small_le h)]
theorem q_app {i : Nat} {ds : List D} {x : D} {env : Env} (h : ds.length ≤ 1000) (he : env.getD i none = some (.l ds)) : appR i x env = .ok .nx (env.set i (some (.l (ds ++ [x])))) := by
  unfold appR
  rw [he]
  show (if ds.length < sizeLine then (R.ok Fl.nx (env.set i (some (.l (ds ++ [x])))) : R Fl) else .no) = _
  rw [if_pos (Nat.lt_of_lt_of_le (Nat.lt_succ_of_le h) (small_le (by decide)))]
theorem wp_app {i : Nat} {ds : List D} {x : D} {env : Env} {Q : Fl → Env → Prop} {E : X → Env → Prop} (h : ds.length ≤ 1000) (he : env.getD i none = some (.l ds)) (hq : Q .nx (env.set i (some (.l (ds ++ [x]))))) : (appR i x env).wp Q E := by
  rw [q_app h he, wp_ok]; exact hq
/-- a call that changes nothing -/
theorem wp_pure {C : Cl} {f : Nat} {sl : List (Option Nat)} {ts : List T} {env : Env} {Q : T → Env → Prop} {E : X → Env → Prop} {t : T} (h : C.call f ts = .ok t []) (h1 : C.io f = []) (h2 : ioOk [] sl = true) (hq : Q t env) : (callK C f sl ts env).wp Q E := wp_of (callK_pure h1 h2 h) hq
/-- a call that changes its first argument -/
theorem wp_chg {C : Cl} {f i : Nat} {sl : List (Option Nat)} {ts : List T} {env : Env} {Q : T → Env → Prop} {E : X → Env → Prop} {t : T} {o : Option T} (h : C.call f ts = .ok t [o]) (h1 : C.io f = [0]) (h2 : ioOk [0] (some i :: sl) = true) (hq : Q t (env.set i o)) : (callK C f (some i :: sl) ts env).wp Q E := wp_of (callK_io h1 h2 h) hq
theorem rng_to (j : Nat) (h : j ≤ 1000000) : rngF [.int (j : Int)] = some ((List.range j).map fun (n : Nat) => .int n) := by
  simp only [rngF]
  rw [if_pos ⟨by omega, by omega⟩, Int.toNat_natCast]
theorem rng_at {j i : Nat} {d : D} (h : ((List.range j).map fun (n : Nat) => D.int n)[i]? = some d) : i < j ∧ d = .int i := by
  rw [List.getElem?_map] at h
  cases hr : (List.range j)[i]? with
  | none => rw [hr] at h; cases h
  | some m =>
    rw [hr] at h
    have hl := (List.getElem?_eq_some_iff.mp hr)
    obtain ⟨h1, h2⟩ := hl
    rw [List.length_range] at h1
    rw [List.getElem_range] at h2
    subst h2
    exact ⟨h1, (by simpa using h.symm)⟩
end AM
namespace AM
open PySem
theorem lcT_n {C : Cl} {own : List Nat} {ifs : Oe} {e : E} {d : D} {env : Env} (i : Nat) (h : i < env.length) : lcT C own (.name i) ifs e d env = (evO C ifs (env.set i (some (.d d)))).bi fun k env3 => cnd k ((evE C e env3).bi fun t env4 => .ok (some t.snap) (wipeE env4 own)) (.ok none (wipeE env3 own)) := lcT_p (by rw [bindPt, if_pos h])
end AM
namespace AM
open PySem
theorem io_of {P : Tx} {f : Nat} {fn : Fn} (hf : P.fns[f]? = some fn) : P.io f = fn.io := by
  unfold Tx.io
  rw [hf]
theorem wp_run {P : Tx} {k f : Nat} {fn : Fn} {sl : List (Option Nat)} {ts : List T} {env : Env} {Q : T → Env → Prop} {E : X → Env → Prop} (hf : P.fns[f]? = some fn) (h0 : ioOk fn.io sl = true) (h1 : ts.length = fn.np) (ha : apart fn.io fn.body.asg = true)
    (h : (evSs ⟨P.call k, P.io, P.glob⟩ P.isa fn.body (ts.map some ++ List.replicate (fn.n - fn.np) none)).wp (finQ fn.io fun t outs => Q t (putOuts fn.io outs sl env)) (fun x env' => E x (putOuts fn.io (outsOf fn.io env') sl env))) (ho : fn.obj = none := by rfl) (hlw : fn.low = false := by rfl) : (callK ⟨P.call (k + 1), P.io, P.glob⟩ f sl ts env).wp Q E := by
  have e : P.io f = fn.io := io_of hf
  refine wp_callK (C := ⟨P.call (k + 1), P.io, P.glob⟩) (by show ioOk (P.io f) sl = true; rw [e]; exact h0) ?_
  show (P.call (k + 1) f ts).wp (fun t outs => Q t (putOuts (P.io f) outs sl env)) (fun x outs => E x (putOuts (P.io f) outs sl env))
  rw [e]
  exact wp_def hf h1 ha h ho hlw
end AM
namespace AM
theorem so_vw (i : Nat) : slotOf (.vw i) = some i := (rfl)
theorem so_cst (d : D) : slotOf (.cst d) = none := (rfl)
theorem so_var (i : Nat) : slotOf (.var i) = none := (rfl)
theorem so_glob (x : PySem.Str) : slotOf (.glob x) = none := (rfl)
theorem so_prim (p : Prim) (es : Es) : slotOf (.prim p es) = none := (rfl)
theorem so_sl (e : E) (a b : Oe) : slotOf (.sl e a b) = none := (rfl)
theorem so_and (a b : E) : slotOf (.and a b) = none := (rfl)
theorem so_or (a b : E) : slotOf (.or a b) = none := (rfl)
theorem so_not (a : E) : slotOf (.not a) = none := (rfl)
theorem so_ife (a b c : E) : slotOf (.ife a b c) = none := (rfl)
theorem so_one (a : E) : slotOf (.one a) = none := (rfl)
theorem so_tru (a : E) : slotOf (.tru a) = none := (rfl)
theorem so_chain (o1 o2 : PySem.CmpOp) (a b c : E) : slotOf (.chain o1 o2 a b c) = none := (rfl)
theorem so_call (f : Nat) (es : Es) : slotOf (.call f es) = none := (rfl)
theorem so_lc (own : List (PySem.Str × Nat)) (p : Pt) (it : It) (ifs : Oe) (e : E) : slotOf (.lc own p it ifs e) = none := (rfl)
theorem so_pop (i : Nat) (es : Es) : slotOf (.pop i es) = none := (rfl)
end AM
namespace AM
theorem items_l (ds : List D) : items (.lst ds) = some ds := (rfl)
theorem items_t (ds : List D) : items (.tup ds) = some ds := (rfl)
theorem slR_e (d : D) (lo hi : Option Int) (env : Env) : slR d lo hi env = someR (slF d lo hi) env := by
  unfold slR
  cases slF d lo hi <;> rfl
theorem sl_t (ds : List D) (lo hi : Option Int) : slF (.tup ds) lo hi = some (.d (.tup (cutG ds lo hi))) := (rfl)
theorem sl_l (ds : List D) (lo hi : Option Int) : slF (.lst ds) lo hi = some (.l (cutG ds lo hi)) := (rfl)
end AM
namespace AM
theorem wp_eq {α : Type} {r : R α} {a : α} {b : Env} (h : r.wp (fun t o => t = a ∧ o = b) fun _ _ => False) : r = .ok a b := by
  obtain ⟨t, o, e, rfl, rfl⟩ := wp_get h
  exact e
end AM
namespace AM
theorem e_globP {P : Tx} {x : PySem.Str} {d : D} (h : P.glob x = some d) (c : Nat → List T → R T) (env : Env) : evE ⟨c, P.io, P.glob⟩ (.glob x) env = .ok (.d d) env := e_glob _ env h
end AM
namespace AM
theorem q_addT (a b : List D) (h : a.length + b.length ≤ 1000000) : primF (.bin .Add) [.tup a, .tup b] = some (.d (.tup (a ++ b))) := by rw [p_addT, if_pos (small_le h)]
theorem q_addL (a b : List D) (h : a.length + b.length ≤ 1000000) : primF (.bin .Add) [.lst a, .lst b] = some (.l (a ++ b)) := by rw [p_addL, if_pos (small_le h)]
/-- one of some things, drawn -/
theorem wp_ix {L : List D} {r : Nat} {env : Env} {Q : T → Env → Prop} {E : X → Env → Prop} (p : D → Prop) (h : ∀ x ∈ L, p x) (hr : (r : Int) < L.length) (hq : ∀ x, p x → Q (.d x) env) : (someR (Option.map T.d (L2.atI L (r : Int))) env).wp Q E := by
  have hr' : r < L.length := by omega
  have e : L2.atI L (r : Int) = some L[r] := L2.atI_nat (List.getElem?_eq_getElem hr')
  rw [e]
  exact wp_of rfl (hq _ (h _ (List.getElem_mem hr')))
end AM

set_option maxHeartbeats 8000000
/-! rules for objects: fields, properties, the own ==, makers -/
namespace AM
open PySem
theorem so_fld (e : E) (x : Str) : slotOf (.fld e x) = none := (rfl)
theorem so_prop (c g : Nat) (x : Str) (e : E) : slotOf (.prop c g x e) = none := (rfl)
theorem so_oeq (c g : Nat) (ne : Bool) (a b : E) : slotOf (.oeq c g ne a b) = none := (rfl)
section
variable (C : Cl)
theorem e_fld (e : E) (x : Str) (env : Env) : evE C (.fld e x) env = (opd (slotOf e) (evE C e) env).bi fun d env' => someR ((fldF d x).map T.d) env' := by
  rw [evE]
  show R.bind _ _ = R.bind _ _
  congr 1
  funext d env'
  cases fldF d x <;> rfl
theorem e_prop (c g : Nat) (x : Str) (e : E) (env : Env) : evE C (.prop c g x e) env = (opd (slotOf e) (evE C e) env).bi fun d env' => propK C c g d env' := by rw [evE]; rfl
theorem e_oeq (c g : Nat) (ne : Bool) (a b : E) (env : Env) : evE C (.oeq c g ne a b) env = (evE C a env).bi fun t env1 => (evE C b env1).bi fun u env2 => oeqK C c g ne t.snap u.snap env2 := by rw [evE]; rfl
end
theorem prop_ok {C : Cl} {c g : Nat} {d y : D} {env : Env} (h : isObj c d = true) (e : C.call g [.d d] = .ok (.d y) []) : propK C c g d env = .ok (.d y) env := by
  unfold propK
  rw [if_pos h, e]
theorem oeq_plain {C : Cl} {c g : Nat} {ne b : Bool} {x y : D} {env : Env} (hx : noObj x = true) (hy : noObj y = true) (h : eqF x y = some b) : oeqK C c g ne x y env = .ok (.d (.bl (b != ne))) env := by
  have n1 : ∀ {d : D}, noObj d = true → ¬ isObj c d = true := fun {d} hd => by cases d <;> simp_all [noObj, isObj]
  unfold oeqK
  rw [if_neg (n1 hx), if_neg (n1 hy), if_pos ⟨hx, hy⟩, h]
theorem oeq_own {C : Cl} {c g : Nat} {ne r : Bool} {x y : D} {env : Env} (hx : isObj c x = true) (hy : isObj c y = true ∨ (tagOf y).isSome = true) (h : C.call g [.d x, .d y] = .ok (.d (.bl r)) []) : oeqK C c g ne x y env = .ok (.d (.bl (r != ne))) env := by
  unfold oeqK askEq
  rw [if_pos hx, if_pos hy, h]
theorem oeq_back {C : Cl} {c g : Nat} {r : Bool} {x y : D} {env : Env} (hx : isTup7 x = true) (hy : isObj c y = true) (h : C.call g [.d y, .d x] = .ok (.d (.bl r)) []) : oeqK C c g false x y env = .ok (.d (.bl (r != false))) env := by
  have n1 : ¬ isObj c x = true := by cases x <;> simp_all [isTup7, isObj]
  unfold oeqK askEq
  rw [if_neg n1, if_pos hy, if_pos ⟨hx, rfl⟩, h]
/-- behind a maker's body -/
def mkQ (C : Cl) (c : Nat) (fl : List (Str × E)) (Q : T → Env → Prop) (E : X → Env → Prop) : Fl → Env → Prop
  | .nx, env => (evF C fl env []).wp (fun ds _ => Q (.d (.obj c (fl.map (·.1)) ds)) []) fun x _ => E x []
  | _, _ => False
theorem mk_nx (C : Cl) (c : Nat) (fl : List (Str × E)) (Q : T → Env → Prop) (E : X → Env → Prop) (env : Env) : mkQ C c fl Q E .nx env = (evF C fl env []).wp (fun ds _ => Q (.d (.obj c (fl.map (·.1)) ds)) []) fun x _ => E x [] := (rfl)
theorem f_nil (C : Cl) (env : Env) (acc : List D) : evF C [] env acc = .ok acc env := (rfl)
theorem f_cons (C : Cl) (x : Str) (e : E) (r : List (Str × E)) (env : Env) (acc : List D) : evF C ((x, e) :: r) env acc = (evE C e env).bi fun t env' => evF C r env' (acc ++ [t.snap]) := (rfl)
theorem call_make {P : Tx} {k f : Nat} {fn : Fn} {p : Nat × List (Str × E)} {ts : List T} (hf : P.fns[f]? = some fn) (ho : fn.obj = some p) : P.call (k + 2) f ts = runO ⟨P.call k, P.io, P.glob⟩ P.isa fn p.1 p.2 ts := by
  rw [Tx.call_succ, hf]
  simp only [ho, Tx.make]
theorem call_low {P : Tx} {k f : Nat} {fn : Fn} {ts : List T} (hf : P.fns[f]? = some fn) (ho : fn.obj = none := by rfl) (hl : fn.low = true := by rfl) : P.call (k + 2) f ts = runF ⟨P.call k, P.io, P.glob⟩ P.isa fn ts := by
  rw [Tx.call_succ, hf]
  simp only [ho, hl, Tx.lowR]
theorem wp_low {P : Tx} {k f : Nat} {fn : Fn} {ts : List T} {Q : T → Env → Prop} {E : X → Env → Prop} (hf : P.fns[f]? = some fn) (h1 : ts.length = fn.np) (ha : apart fn.io fn.body.asg = true) (h : (evSs ⟨P.call k, P.io, P.glob⟩ P.isa fn.body (ts.map some ++ List.replicate (fn.n - fn.np) none)).wp (finQ fn.io Q) (fun x env => E x (outsOf fn.io env))) (ho : fn.obj = none := by rfl) (hlw : fn.low = true := by rfl) : (P.call (k + 2) f ts).wp Q E := by
  rw [call_low hf ho hlw, runF_eq h1 ha]
  cases he : evSs ⟨P.call k, P.io, P.glob⟩ P.isa fn.body (ts.map some ++ List.replicate (fn.n - fn.np) none) with
  | ok f env => rw [he, wp_ok] at h; cases f with
    | nx => rw [fin_nx, wp_ok]; exact h
    | rt t => rw [fin_rt, wp_ok]; exact h
    | bk => exact h.elim
    | ct => exact h.elim
  | ex x env => rw [he, wp_ex] at h; rw [fin_ex, wp_ex]; exact h
  | no => rw [he, wp_no] at h; exact h.elim
theorem wp_make {P : Tx} {k f : Nat} {fn : Fn} {c : Nat} {fl : List (Str × E)} {ts : List T} {Q : T → Env → Prop} {E : X → Env → Prop} (hf : P.fns[f]? = some fn) (ho : fn.obj = some (c, fl)) (h1 : ts.length = fn.np) (hi : fn.io = [])
    (h : (evSs ⟨P.call k, P.io, P.glob⟩ P.isa fn.body (none :: (ts.map some ++ List.replicate (fn.n - (fn.np + 1)) none))).wp (mkQ ⟨P.call k, P.io, P.glob⟩ c fl Q E) (fun x _ => E x [])) : (P.call (k + 2) f ts).wp Q E := by
  rw [call_make hf ho]
  unfold runO
  rw [if_pos ⟨h1, hi⟩]
  cases he : evSs ⟨P.call k, P.io, P.glob⟩ P.isa fn.body (none :: (ts.map some ++ List.replicate (fn.n - (fn.np + 1)) none)) with
  | ok f env =>
    rw [he, wp_ok] at h
    cases f with
    | nx =>
      rw [mk_nx] at h
      show R.wp (match evF ⟨P.call k, P.io, P.glob⟩ fl env [] with
        | .ok ds _ => .ok (.d (.obj c (fl.map (·.1)) ds)) []
        | .ex x _ => .ex x []
        | .no => .no) Q E
      cases hv : evF ⟨P.call k, P.io, P.glob⟩ fl env [] with
      | ok ds env2 => rw [hv, wp_ok] at h; rw [wp_ok]; exact h
      | ex x env2 => rw [hv, wp_ex] at h; rw [wp_ex]; exact h
      | no => rw [hv, wp_no] at h; exact h.elim
    | rt t => exact h.elim
    | bk => exact h.elim
    | ct => exact h.elim
  | ex x env => rw [he, wp_ex] at h; show R.wp (R.ex x [] : R T) Q E; rw [wp_ex]; exact h
  | no => rw [he, wp_no] at h; exact h.elim
/-- what a call that may fail promises -/
theorem wp_fails {C : Cl} {f : Nat} {sl : List (Option Nat)} {ts : List T} {env : Env} {Q : T → Env → Prop} {E : X → Env → Prop} {x : X} (h : C.call f ts = .ex x []) (h1 : C.io f = []) (h2 : ioOk [] sl = true) (hq : E x env) : (callK C f sl ts env).wp Q E := by
  rw [callK_ex h1 h2 h, wp_ex]
  exact hq
theorem wp_eqx {α : Type} {r : R α} {x : X} {b : Env} (h : r.wp (fun _ _ => False) fun t o => t = x ∧ o = b) : r = .ex x b := by
  cases r with
  | ok a e => rw [wp_ok] at h; exact h.elim
  | ex y e => rw [wp_ex] at h; obtain ⟨rfl, rfl⟩ := h; rfl
  | no => rw [wp_no] at h; exact h.elim
end AM

set_option maxHeartbeats 8000000
/-! what the laws' plain parts share -/
namespace AM
open PySem
def isStr : D → Bool
  | .str _ => true
  | _ => false
def isTp : D → Bool
  | .tup _ => true
  | _ => false
def isLs : D → Bool
  | .lst _ => true
  | _ => false
def isBo : D → Bool
  | .bl _ => true
  | _ => false
def isDi : D → Bool
  | .dic _ => true
  | _ => false
/-- values whose kind isinstance knows -/
def known (d : D) : Bool := (tagOf d).isSome
theorem i_int {d : D} (h : known d = true) : primF (.bi .isinstance) [d, .ty "int"] = some (.d (.bl (d.isInt || isBo d))) := by
  cases d <;> first | rfl | (cases h; done) | decide +kernel
theorem i_bool {d : D} (h : known d = true) : primF (.bi .isinstance) [d, .ty "bool"] = some (.d (.bl (isBo d))) := by
  cases d <;> first | rfl | (cases h; done) | decide +kernel
theorem i_str {d : D} (h : known d = true) : primF (.bi .isinstance) [d, .ty "str"] = some (.d (.bl (isStr d))) := by
  cases d <;> first | rfl | (cases h; done) | decide +kernel
theorem i_tuple {d : D} (h : known d = true) : primF (.bi .isinstance) [d, .ty "tuple"] = some (.d (.bl (isTp d))) := by
  cases d <;> first | rfl | (cases h; done) | decide +kernel
theorem i_list {d : D} (h : known d = true) : primF (.bi .isinstance) [d, .ty "list"] = some (.d (.bl (isLs d))) := by
  cases d <;> first | rfl | (cases h; done) | decide +kernel
theorem i_dict {d : D} (h : known d = true) : primF (.bi .isinstance) [d, .ty "dict"] = some (.d (.bl (isDi d))) := by
  cases d <;> first | rfl | (cases h; done) | decide +kernel
theorem i_lt {d : D} (h : known d = true) : primF (.bi .isinstance) [d, .tup [.ty "list", .ty "tuple"]] = some (.d (.bl (isLs d || isTp d))) := by
  cases d <;> first | rfl | (cases h; done) | decide +kernel
theorem cmp_le (i j : Int) : cmpF .LtE (.int i) (.int j) = some (decide (i ≤ j)) := (rfl)
theorem cmp_lt (i j : Int) : cmpF .Lt (.int i) (.int j) = some (decide (i < j)) := (rfl)
theorem all_bl {α : Type} (g : α → Bool) (xs : List α) : primF (.bi .all) [.lst (xs.map fun i => .bl (g i))] = some (.d (.bl (xs.all g))) := by
  have h1 : (xs.map fun i => D.bl (g i)).all D.isBl = true := by
    rw [List.all_map]
    exact List.all_eq_true.mpr fun _ _ => rfl
  have h2 : (xs.map fun i => D.bl (g i)).all D.getBl = xs.all g := by
    rw [List.all_map]
    rfl
  show (if (xs.map fun i => D.bl (g i)).all D.isBl = true then some (T.d (.bl ((xs.map fun i => D.bl (g i)).all D.getBl))) else none) = _
  rw [h1, h2]
  rfl
theorem sum_t {ds : List D} (h : ds.all D.isInt = true) : primF (.bi .sum) [.tup ds] = some (.d (.int (ds.map D.getInt).sum)) := by
  show (if ds.all D.isInt = true then some (T.d (.int ((ds.map D.getInt).sum))) else none) = _
  rw [if_pos h]
theorem cut_to {ds : List D} {j : Nat} (h : j ≤ ds.length) : cutG ds none (some (j : Int)) = ds.take j := by
  unfold cutG
  rw [HT.sIx_none, HT.sIx_nat, List.drop_zero, Nat.sub_zero, Nat.min_eq_left h]
theorem cut_from {ds : List D} {j : Nat} (h : j ≤ ds.length) : cutG ds (some (j : Int)) none = ds.drop j := by
  unfold cutG
  rw [HT.sIx_none, HT.sIx_nat, Nat.min_eq_left h, List.take_of_length_le (by rw [List.length_drop]; omega)]
theorem wp_cnd {α : Type} {k : Bool} {x y : R α} {Q : α → Env → Prop} {E : X → Env → Prop} (h1 : k = true → x.wp Q E) (h2 : k = false → y.wp Q E) : (cnd k x y).wp Q E := wp_cond h1 h2
end AM

set_option maxHeartbeats 8000000
/-! the text in the core -/
namespace W
open AM
def top (i : Nat) : PySem.Stmt := PySem.Challenge.pw_fullbelts_k19_machines_judged.main.body.getD i (.Pass ⟨0, 0, 0, 0⟩)
def c_is_integer : Fn := ⟨1, 1, [],
  (.cons (.ret (.and (.prim (.bi .isinstance) (.cons (.vw 0) (.cons (.glob "int") .nil))) (.one (.not (.prim (.bi .isinstance) (.cons (.vw 0) (.cons (.glob "bool") .nil))))))) (.nil)), none, false⟩
def c_are_lengths : Fn := ⟨1, 2, [],
  (.cons (.ife (.or (.not (.prim (.bi .isinstance) (.cons (.vw 0) (.cons (.glob "tuple") .nil)))) (.one (.not (.chain .LtE .LtE (.cst (.int 1)) (.prim (.bi .len) (.cons (.vw 0) .nil)) (.glob "MOST_BELTS")))))
  (.cons (.ret (.cst (.bl false))) (.nil))
  (.nil)) (.cons (.ife (.not (.prim (.bi .all) (.cons (.lc [("length", 1)] (.name 1) (.seq (.vw 0)) .no (.and (.call 0 (.cons (.var 1) .nil)) (.one (.chain .LtE .LtE (.cst (.int 1)) (.var 1) (.glob "MOST_ROOMS"))))) .nil)))
  (.cons (.ret (.cst (.bl false))) (.nil))
  (.nil)) (.cons (.ret (.prim (.cmp .LtE) (.cons (.prim (.bi .sum) (.cons (.vw 0) .nil)) (.cons (.glob "MOST_SIZE") .nil)))) (.nil)))), none, false⟩
def c_Machine_init : Fn := ⟨1, 2, [],
  (.cons (.ife (.not (.call 1 (.cons (.var 1) .nil)))
  (.cons (.rais 1 .nil) (.nil))
  (.nil)) (.nil)), some (2, [("kept_lengths", (.var 1)), ("size", (.prim (.bi .sum) (.cons (.vw 1) .nil)))]), false⟩
def c_Machine_belts : Fn := ⟨1, 1, [],
  (.cons (.ret (.fld (.vw 0) "kept_lengths")) (.nil)), none, true⟩
def c_Machine_eq : Fn := ⟨2, 2, [],
  (.cons (.ret (.and (.prim (.bi .isinstance) (.cons (.vw 1) (.cons (.glob "Machine") .nil))) (.one (.prim (.cmp .Eq) (.cons (.fld (.vw 0) "kept_lengths") (.cons (.fld (.vw 1) "kept_lengths") .nil)))))) (.nil)), none, true⟩
def c_empty : Fn := ⟨1, 2, [],
  (.cons (.ret (.prim (.bi .tuple) (.cons (.lc [("length", 1)] (.name 1) (.seq (.prop 2 3 "belts" (.vw 0))) .no (.prim (.bin .Mult) (.cons (.prim .tup (.cons (.cst .non) .nil)) (.cons (.vw 1) .nil)))) .nil))) (.nil)), none, false⟩
def c__law_dice : Fn := ⟨1, 2, [],
  (.cons (.ret (.prim .lst (.cons (.lc [("_law_cell", 1)] (.name 1) (.seq (.sl (.vw 0) .no (.yes (.cst (.int 63))))) .no (.prim (.bi .abs) (.cons (.prim (.bi .int) (.cons (.vw 1) .nil)) .nil))) (.cons (.cst (.int 0)) (.cons (.cst (.int 0)) (.cons (.cst (.int 1)) (.cons (.cst (.int 0)) .nil))))))) (.nil)), none, false⟩
def c__law_draw : Fn := ⟨2, 5, [0],
  (.cons (.ife (.and (.prim (.cmp .Eq) (.cons (.prim .ix (.cons (.vw 0) (.cons (.cst (.int 2)) .nil))) (.cons (.cst (.int 0)) .nil))) (.one (.prim (.cmp .Lt) (.cons (.prim .ix (.cons (.vw 0) (.cons (.cst (.int 1)) .nil))) (.cons (.prim (.bi .len) (.cons (.prim .ix (.cons (.vw 0) (.cons (.cst (.int 0)) .nil))) .nil)) .nil)))))
  (.cons (.set 3 (.prim .ix (.cons (.prim .ix (.cons (.vw 0) (.cons (.cst (.int 0)) .nil))) (.cons (.prim .ix (.cons (.vw 0) (.cons (.cst (.int 1)) .nil))) .nil)))) (.cons (.setIx 0 (.cst (.int 1)) (.prim (.bin .Add) (.cons (.prim .ix (.cons (.vw 0) (.cons (.cst (.int 1)) .nil))) (.cons (.cst (.int 1)) .nil)))) (.cons (.ife (.prim (.cmp .GtE) (.cons (.vw 3) (.cons (.prim (.bin .Pow) (.cons (.cst (.int 10)) (.cons (.cst (.int 18)) .nil))) .nil)))
    (.cons (.setIx 0 (.cst (.int 2)) (.var 3)) (.nil))
    (.cons (.setIx 0 (.cst (.int 3)) (.prim (.bin .Mod) (.cons (.prim (.bi .int) (.cons (.prim (.bin .Add) (.cons (.prim (.bin .Add) (.cons (.prim (.bin .Mult) (.cons (.prim .ix (.cons (.vw 0) (.cons (.cst (.int 3)) .nil))) (.cons (.cst (.int 69621)) .nil))) (.cons (.prim (.bin .Mult) (.cons (.vw 3) (.cons (.cst (.int 40692)) .nil))) .nil))) (.cons (.prim .ix (.cons (.vw 0) (.cons (.cst (.int 1)) .nil))) .nil))) .nil)) (.cons (.cst (.int 2147483647)) .nil)))) (.nil))) (.nil))))
  (.nil)) (.cons (.ife (.prim (.cmp .Gt) (.cons (.prim .ix (.cons (.vw 0) (.cons (.cst (.int 2)) .nil))) (.cons (.cst (.int 0)) .nil)))
  (.cons (.set 4 (.prim (.bin .Mod) (.cons (.prim (.bi .int) (.cons (.prim .ix (.cons (.vw 0) (.cons (.cst (.int 2)) .nil))) .nil)) (.cons (.vw 1) .nil)))) (.cons (.setIx 0 (.cst (.int 2)) (.prim (.bin .FloorDiv) (.cons (.prim (.bi .int) (.cons (.prim .ix (.cons (.vw 0) (.cons (.cst (.int 2)) .nil))) .nil)) (.cons (.vw 1) .nil)))) (.cons (.ret (.var 4)) (.nil))))
  (.nil)) (.cons (.setIx 0 (.cst (.int 4)) (.prim (.bin .Add) (.cons (.prim .ix (.cons (.vw 0) (.cons (.cst (.int 4)) .nil))) (.cons (.cst (.int 1)) .nil)))) (.cons (.setIx 0 (.cst (.int 3)) (.prim (.bin .Mod) (.cons (.prim (.bi .int) (.cons (.prim (.bin .Add) (.cons (.prim (.bin .Add) (.cons (.prim (.bin .Mult) (.cons (.prim .ix (.cons (.vw 0) (.cons (.cst (.int 3)) .nil))) (.cons (.cst (.int 48271)) .nil))) (.cons (.prim (.bin .Mult) (.cons (.prim .ix (.cons (.vw 0) (.cons (.cst (.int 4)) .nil))) (.cons (.cst (.int 7919)) .nil))) .nil))) (.cons (.cst (.int 1)) .nil))) .nil)) (.cons (.cst (.int 2147483647)) .nil)))) (.cons (.set 2 (.prim (.bin .Mod) (.cons (.prim (.bi .int) (.cons (.prim (.bin .Mult) (.cons (.prim .ix (.cons (.vw 0) (.cons (.cst (.int 3)) .nil))) (.cons (.prim (.bin .Add) (.cons (.prim (.bin .FloorDiv) (.cons (.prim .ix (.cons (.vw 0) (.cons (.cst (.int 3)) .nil))) (.cons (.cst (.int 1009)) .nil))) (.cons (.cst (.int 69623)) .nil))) .nil))) .nil)) (.cons (.cst (.int 2147483399)) .nil)))) (.cons (.set 2 (.prim (.bin .Mod) (.cons (.prim (.bi .int) (.cons (.prim (.bin .Mult) (.cons (.vw 2) (.cons (.prim (.bin .Add) (.cons (.prim (.bin .FloorDiv) (.cons (.vw 2) (.cons (.cst (.int 2003)) .nil))) (.cons (.cst (.int 40693)) .nil))) .nil))) .nil)) (.cons (.cst (.int 2147483563)) .nil)))) (.cons (.ret (.prim (.bin .Mod) (.cons (.prim (.bi .int) (.cons (.prim (.bin .FloorDiv) (.cons (.vw 2) (.cons (.cst (.int 16)) .nil))) .nil)) (.cons (.vw 1) .nil)))) (.nil)))))))), none, false⟩
def c__law_empty : Fn := ⟨1, 3, [],
  (.cons (.ret (.prim (.bi .tuple) (.cons (.lc [("_law_length", 1)] (.name 1) (.seq (.vw 0)) .no (.prim (.bi .tuple) (.cons (.lc [("_law_k", 2)] (.name 2) (.rng (.cons (.vw 1) .nil)) .no (.cst .non)) .nil))) .nil))) (.nil)), none, false⟩
def b__law_is_machine_0 : Ss := (.cons (.ife (.or (.not (.prim (.bi .isinstance) (.cons (.vw 1) (.cons (.glob "int") .nil)))) (.or (.prim (.bi .isinstance) (.cons (.vw 1) (.cons (.glob "bool") .nil))) (.one (.not (.chain .LtE .LtE (.cst (.int 1)) (.var 1) (.cst (.int 8)))))))
  (.cons (.ret (.cst (.bl false))) (.nil))
  (.nil)) (.nil))
def c__law_is_machine : Fn := ⟨1, 2, [],
  (.cons (.ife (.or (.not (.prim (.bi .isinstance) (.cons (.vw 0) (.cons (.glob "tuple") .nil)))) (.one (.not (.chain .LtE .LtE (.cst (.int 1)) (.prim (.bi .len) (.cons (.vw 0) .nil)) (.cst (.int 6))))))
  (.cons (.ret (.cst (.bl false))) (.nil))
  (.nil)) (.cons (.fo (.name 1) (.seq (.vw 0)) b__law_is_machine_0) (.cons (.ret (.prim (.cmp .LtE) (.cons (.prim (.bi .sum) (.cons (.vw 0) .nil)) (.cons (.cst (.int 12)) .nil)))) (.nil)))), none, false⟩
def c__law_told : Fn := ⟨1, 2, [],
  (.cons (.tr (.cons (.set 1 (.prim .lst (.cons (.cst (.str "machine")) (.cons (.call 2 (.cons (.var 0) .nil)) .nil)))) (.nil))
  (.cons 1 none (.cons (.set 1 (.prim .lst (.cons (.cst (.str "bad")) .nil))) (.nil)) .nil)) (.cons (.mov 1) (.nil))), none, false⟩
def c__law_thing : Fn := ⟨1, 9, [0],
  (.cons (.set 1 (.call 7 (.cons (.vw 0) (.cons (.cst (.int 9)) .nil)))) (.cons (.set 2 (.prim .ix (.cons (.prim .lst (.cons (.cst (.int 2)) (.cons (.cst (.int 3)) (.cons (.cst (.int 4)) (.cons (.cst (.int 10)) .nil))))) (.cons (.call 7 (.cons (.vw 0) (.cons (.cst (.int 4)) .nil))) .nil)))) (.cons (.set 3 (.prim (.bi .tuple) (.cons (.lc [("_law_k", 8)] (.name 8) (.rng (.cons (.vw 1) .nil)) .no (.prim (.bin .Add) (.cons (.call 7 (.cons (.vw 0) (.cons (.var 2) .nil))) (.cons (.prim (.bi .int) (.cons (.prim (.cmp .Gt) (.cons (.call 7 (.cons (.vw 0) (.cons (.cst (.int 8)) .nil))) (.cons (.cst (.int 0)) .nil))) .nil)) .nil)))) .nil))) (.cons (.set 4 (.call 7 (.cons (.vw 0) (.cons (.cst (.int 8)) .nil)))) (.cons (.set 5 (.call 7 (.cons (.vw 0) (.cons (.prim (.bin .Add) (.cons (.vw 1) (.cons (.cst (.int 1)) .nil))) .nil)))) (.cons (.set 6 (.prim .ix (.cons (.prim .lst (.cons (.cst (.bl true)) (.cons (.cst .non) (.cons (.cst (.str "2")) (.cons (.prim .tup (.cons (.cst (.int 2)) .nil)) (.cons (.prim .neg (.cons (.cst (.int 1)) .nil)) (.cons (.prim (.bin .Pow) (.cons (.cst (.int 10)) (.cons (.cst (.int 30)) .nil))) (.cons (.prim .lst (.cons (.cst (.int 1)) .nil)) (.cons (.cst (.bl false)) .nil))))))))) (.cons (.call 7 (.cons (.vw 0) (.cons (.cst (.int 8)) .nil))) .nil)))) (.cons (.ife (.prim (.cmp .Eq) (.cons (.vw 4) (.cons (.cst (.int 0)) .nil)))
  (.cons (.ret (.prim (.bin .Add) (.cons (.prim (.bin .Add) (.cons (.sl (.vw 3) .no (.yes (.var 5))) (.cons (.prim .tup (.cons (.var 6) .nil)) .nil))) (.cons (.sl (.vw 3) (.yes (.var 5)) .no) .nil)))) (.nil))
  (.nil)) (.cons (.ife (.prim (.cmp .Eq) (.cons (.vw 4) (.cons (.cst (.int 1)) .nil)))
  (.cons (.ret (.prim .ix (.cons (.prim .lst (.cons (.prim (.bi .list) (.cons (.vw 3) .nil)) (.cons (.cst .non) (.cons (.var 6) (.cons (.cst (.str "21")) (.cons (.prim .dic .nil) (.cons (.cst (.int 3)) .nil))))))) (.cons (.call 7 (.cons (.vw 0) (.cons (.cst (.int 6)) .nil))) .nil)))) (.nil))
  (.nil)) (.cons (.ife (.and (.prim (.cmp .Eq) (.cons (.vw 4) (.cons (.cst (.int 2)) .nil))) (.one (.prim (.cmp .Gt) (.cons (.vw 1) (.cons (.cst (.int 0)) .nil)))))
  (.cons (.set 7 (.prim (.bin .Sub) (.cons (.cst (.int 12)) (.cons (.prim (.bi .sum) (.cons (.sl (.vw 3) (.yes (.cst (.int 1))) .no) .nil)) .nil)))) (.cons (.ret (.prim (.bin .Add) (.cons (.prim .tup (.cons (.var 7) .nil)) (.cons (.sl (.vw 3) (.yes (.cst (.int 1))) .no) .nil)))) (.nil)))
  (.nil)) (.cons (.ret (.var 3)) (.nil))))))))))), none, false⟩
def b_law_0 : Ss := (.cons (.frz 4) (.cons (.ife (.or (.oeq 2 4 true (.oeq 2 4 false (.var 6) (.var 7)) (.oeq 2 4 false (.var 4) (.prop 2 3 "belts" (.vw 7)))) (.one (.oeq 2 4 false (.oeq 2 4 true (.var 6) (.var 7)) (.oeq 2 4 false (.var 4) (.prop 2 3 "belts" (.vw 7))))))
  (.cons (.ret (.cst (.bl false))) (.nil))
  (.nil)) (.nil)))
def b_law_1 : Ss := (.cons (.set 4 (.call 11 (.cons (.vw 1) .nil))) (.cons (.frz 4) (.cons (.set 5 (.call 10 (.cons (.var 4) .nil))) (.cons (.frz 4) (.cons (.ife (.oeq 2 4 true (.call 9 (.cons (.var 4) .nil)) (.oeq 2 4 false (.prim .ix (.cons (.vw 5) (.cons (.cst (.int 0)) .nil))) (.cst (.str "machine"))))
  (.cons (.ret (.cst (.bl false))) (.nil))
  (.nil)) (.cons (.ife (.oeq 2 4 false (.prim .ix (.cons (.vw 5) (.cons (.cst (.int 0)) .nil))) (.cst (.str "machine")))
  (.cons (.set 6 (.prim .ix (.cons (.vw 5) (.cons (.cst (.int 1)) .nil)))) (.cons (.frz 4) (.cons (.ife (.or (.oeq 2 4 true (.prop 2 3 "belts" (.vw 6)) (.var 4)) (.or (.oeq 2 4 true (.fld (.vw 6) "size") (.prim (.bi .sum) (.cons (.vw 4) .nil))) (.one (.oeq 2 4 true (.call 5 (.cons (.var 6) .nil)) (.call 8 (.cons (.var 4) .nil))))))
    (.cons (.ret (.cst (.bl false))) (.nil))
    (.nil)) (.cons (.frz 4) (.cons (.ife (.or (.not (.oeq 2 4 false (.var 6) (.call 2 (.cons (.prim (.bi .tuple) (.cons (.prim (.bi .list) (.cons (.vw 4) .nil)) .nil)) .nil)))) (.or (.oeq 2 4 false (.var 6) (.var 4)) (.or (.oeq 2 4 false (.var 6) (.cst (.str "machine"))) (.one (.oeq 2 4 false (.var 4) (.var 6))))))
    (.cons (.ret (.cst (.bl false))) (.nil))
    (.nil)) (.cons (.fo (.name 7) (.seq (.vw 2)) b_law_0) (.cons (.app 2 (.var 6)) (.nil))))))))
  (.nil)) (.nil)))))))
def c_law : Fn := ⟨1, 8, [],
  (.cons (.set 1 (.call 6 (.cons (.var 0) .nil))) (.cons (.set 2 (.prim .lst .nil)) (.cons (.fo (.name 3) (.rng (.cons (.cst (.int 8)) .nil)) b_law_1) (.cons (.ret (.cst (.bl true))) (.nil))))), none, false⟩
def sub (i j : Nat) : PySem.Stmt := match top i with
  | .ClassDef _ _ _ b _ _ _ _ _ _ _ => b.getD j (.Pass ⟨0, 0, 0, 0⟩)
  | s => s
def isaB : List (List Bool) := [[true, false], [true, true]]
def isa (a b : Nat) : Bool := (isaB.getD a []).getD b false
def gi : List (PySem.Str × Int) := [("MOST_BELTS", 6), ("MOST_ROOMS", 8), ("MOST_SIZE", 12)]
def fr : List PySem.Str := ["abs", "all", "bool", "int", "isinstance", "len", "list", "range", "sum", "tuple"]
def G : Ck := ⟨["is_integer", "are_lengths", "Machine", "", "", "empty", "_law_dice", "_law_draw", "_law_empty", "_law_is_machine", "_law_told", "_law_thing", "law"], fr, ["MOST_BELTS", "MOST_ROOMS", "MOST_SIZE", "Machine", "bool", "int", "tuple"], ["BeltsError", "BadMachine"], [0, 1], ["Machine"], [(2, 3, "belts")], [(2, 4)]⟩
def cl : List (PySem.Str × Nat) := [("Machine", 2)]
def P : Tx := ⟨[c_is_integer, c_are_lengths, c_Machine_init, c_Machine_belts, c_Machine_eq, c_empty, c__law_dice, c__law_draw, c__law_empty, c__law_is_machine, c__law_told, c__law_thing, c_law], globC gi fr cl, isa⟩
def ds : List Dn := [⟨"is_integer", none, false, ["thing"], top 4⟩,
  ⟨"are_lengths", none, false, ["thing", "length"], top 9⟩,
  ⟨"__init__", (some "Machine"), false, ["self", "belts"], sub 10 0⟩,
  ⟨"belts", (some "Machine"), true, ["self"], sub 10 1⟩,
  ⟨"__eq__", (some "Machine"), false, ["self", "other"], sub 10 2⟩,
  ⟨"empty", none, false, ["machine", "length"], top 11⟩,
  ⟨"_law_dice", none, false, ["_law_script", "_law_cell"], top 13⟩,
  ⟨"_law_draw", none, false, ["_law_dice_here", "_law_sides", "_law_mixed", "_law_cell", "_law_digit"], top 14⟩,
  ⟨"_law_empty", none, false, ["_law_lengths", "_law_length", "_law_k"], top 15⟩,
  ⟨"_law_is_machine", none, false, ["_law_thing_here", "_law_length"], top 16⟩,
  ⟨"_law_told", none, false, ["_law_thing_here", "_law_told_here"], top 17⟩,
  ⟨"_law_thing", none, false, ["_law_dice_here", "_law_many", "_law_high", "_law_thing_here", "_law_kind", "_law_spot", "_law_odd", "_law_rest", "_law_k"], top 18⟩,
  ⟨"law", none, false, ["_law_script", "_law_dice_here", "_law_known", "_law_turn", "_law_thing_here", "_law_told_here", "_law_machine", "_law_other"], top 19⟩]
def txt : Txt := ⟨P, G, ds, gi⟩
end W

set_option maxHeartbeats 8000000
namespace W
open AM PySem
theorem g_int : P.glob "int" = some (.ty "int") := by rfl
theorem g_bool : P.glob "bool" = some (.ty "bool") := by rfl
theorem g_tuple : P.glob "tuple" = some (.ty "tuple") := by rfl
theorem g_belts : P.glob "MOST_BELTS" = some (.int 6) := by rfl
theorem g_rooms : P.glob "MOST_ROOMS" = some (.int 8) := by rfl
theorem g_size : P.glob "MOST_SIZE" = some (.int 12) := by rfl
theorem g_mach : P.glob "Machine" = some (.cls 2) := by rfl
theorem is_integer_ok (k : Nat) {d : D} (h : known d = true) : P.call (k + 1) 0 [.d d] = .ok (.d (.bl d.isInt)) [] := by
  apply wp_eq
  refine wp_def (fn := c_is_integer) rfl rfl rfl ?_
  simp only [c_is_integer, e_globP g_int, e_globP g_bool, i_int h, i_bool h, wp_ok, wp_ex, wp_bind, bnd_ok, bnd_ex, bl_bind, boolR_b, cond_t, cond_f, e_cst, e_var, varR_d, someR_s, e_prim, e_sl, e_slv, e_and, e_or, e_one, e_not, e_tru, e_ife, e_chain, e_call, e_lc, e_pop, s_nil, s_cons, o_no, o_yes, intR_i, pt_no, pt_yes, es_nil, es_val, es_vw, a_nil, a_val, a_vw, it_seq, it_rng, it_enum, opd_n, opd_s, t_set, t_unp, t_par, t_setIx, ownR_l, valR_d, t_aug, t_exp, t_app, frzR_s, t_frz, setS_lt, t_ife, t_ret, t_mov, t_retN, t_brk, t_cnt, t_pass, t_rais, t_tr, wp_try, h_nil, h_cons, then_nx, then_rt, then_bk, then_ct, b_nil, b_cons, after_nx, after_ct, after_bk, after_rt, after_no, after_so, fin_qn, fin_qr, so_vw, so_cst, so_var, so_glob, so_prim, so_sl, so_and, so_or, so_not, so_ife, so_one, so_tru, so_chain, so_call, so_lc, so_pop, snap_d, snap_l, Option.isSome_some, List.getD_cons_zero, List.getD_cons_succ, List.set_cons_zero, List.set_cons_succ, List.length_cons, List.length_nil, Nat.reduceAdd, Nat.reduceSub, Nat.reduceLT, Nat.reduceLeDiff, List.map_cons, List.map_nil, List.replicate, List.cons_append, List.nil_append, List.append_nil, outsOf, wipeE, backE, ownIx, putOuts, Option.toList, It.lk, Es.lk, items_l, items_t, slR_e, sl_t, sl_l, if_true, if_false, Bool.false_eq_true, Bool.true_and, Bool.and_true, Bool.not_true, Bool.not_false, Option.map_some, decide_true, decide_false, q_tup, q_lst, p_add, p_sub, p_mul, p_mod, p_div, p_pow18, p_lt, p_le, p_gt, p_ge, p_eq, p_ne, p_ixL, p_ixT, p_neg, p_lenL, p_lenT, p_int, p_intB, p_abs, p_min, p_max, p_tupL, p_tupT, p_listL, p_listT, p_dic, e_fld, e_prop, e_oeq, so_fld, so_prop, so_oeq, mk_nx, f_nil, f_cons]
  cases d <;> first | (cases h; done) | (simp only [D.isInt, isBo, Bool.or_false, Bool.or_true, Bool.or_self, Bool.false_or, e_globP g_bool, i_bool (d := .int _) rfl, i_bool (d := .bl _) rfl, wp_ok, wp_ex, wp_bind, bnd_ok, bnd_ex, bl_bind, boolR_b, cond_t, cond_f, e_cst, e_var, varR_d, someR_s, e_prim, e_sl, e_slv, e_and, e_or, e_one, e_not, e_tru, e_ife, e_chain, e_call, e_lc, e_pop, s_nil, s_cons, o_no, o_yes, intR_i, pt_no, pt_yes, es_nil, es_val, es_vw, a_nil, a_val, a_vw, it_seq, it_rng, it_enum, opd_n, opd_s, t_set, t_unp, t_par, t_setIx, ownR_l, valR_d, t_aug, t_exp, t_app, frzR_s, t_frz, setS_lt, t_ife, t_ret, t_mov, t_retN, t_brk, t_cnt, t_pass, t_rais, t_tr, wp_try, h_nil, h_cons, then_nx, then_rt, then_bk, then_ct, b_nil, b_cons, after_nx, after_ct, after_bk, after_rt, after_no, after_so, fin_qn, fin_qr, so_vw, so_cst, so_var, so_glob, so_prim, so_sl, so_and, so_or, so_not, so_ife, so_one, so_tru, so_chain, so_call, so_lc, so_pop, snap_d, snap_l, Option.isSome_some, List.getD_cons_zero, List.getD_cons_succ, List.set_cons_zero, List.set_cons_succ, List.length_cons, List.length_nil, Nat.reduceAdd, Nat.reduceSub, Nat.reduceLT, Nat.reduceLeDiff, List.map_cons, List.map_nil, List.replicate, List.cons_append, List.nil_append, List.append_nil, outsOf, wipeE, backE, ownIx, putOuts, Option.toList, It.lk, Es.lk, items_l, items_t, slR_e, sl_t, sl_l, if_true, if_false, Bool.false_eq_true, Bool.true_and, Bool.and_true, Bool.not_true, Bool.not_false, Option.map_some, decide_true, decide_false, q_tup, q_lst, p_add, p_sub, p_mul, p_mod, p_div, p_pow18, p_lt, p_le, p_gt, p_ge, p_eq, p_ne, p_ixL, p_ixT, p_neg, p_lenL, p_lenT, p_int, p_intB, p_abs, p_min, p_max, p_tupL, p_tupT, p_listL, p_listT, p_dic, e_fld, e_prop, e_oeq, so_fld, so_prop, so_oeq, mk_nx, f_nil, f_cons]; exact ⟨by trivial, by trivial⟩)
/-- a belt's length that may be -/
def okI : D → Bool
  | .int i => decide (1 ≤ i) && decide (i ≤ 8)
  | _ => false
def sumI (ds : List D) : Int := (ds.map D.getInt).sum
def machB : D → Bool
  | .tup ds => (decide (1 ≤ (ds.length : Int)) && decide ((ds.length : Int) ≤ 6)) && ds.all okI && decide (sumI ds ≤ 12)
  | _ => false
theorem okI_int {ds : List D} (h : ds.all okI = true) : ds.all D.isInt = true := by
  refine List.all_eq_true.mpr fun d hd => ?_
  have := List.all_eq_true.mp h d hd
  cases d <;> first | rfl | (cases this; done)
theorem machB_t (ds : List D) : machB (.tup ds) = ((decide (1 ≤ (ds.length : Int)) && decide ((ds.length : Int) ≤ 6)) && ds.all okI && decide (sumI ds ≤ 12)) := (rfl)
theorem okI_i (i : Int) : okI (.int i) = (decide (1 ≤ i) && decide (i ≤ 8)) := (rfl)
/-- things that may be asked about -/
def Thing (d : D) : Prop := known d = true ∧ (∀ ds, d = .tup ds → ds.length ≤ 1000 ∧ ∀ x ∈ ds, known x = true)
theorem are_lengths_ok (k : Nat) {d : D} (h : Thing d) : P.call (k + 2) 1 [.d d] = .ok (.d (.bl (machB d))) [] := by
  obtain ⟨hk, ht⟩ := h
  apply wp_eq
  refine wp_def (fn := c_are_lengths) rfl rfl rfl ?_
  simp only [c_are_lengths, e_globP g_tuple, i_tuple hk, wp_ok, wp_ex, wp_bind, bnd_ok, bnd_ex, bl_bind, boolR_b, cond_t, cond_f, e_cst, e_var, varR_d, someR_s, e_prim, e_sl, e_slv, e_and, e_or, e_one, e_not, e_tru, e_ife, e_chain, e_call, e_lc, e_pop, s_nil, s_cons, o_no, o_yes, intR_i, pt_no, pt_yes, es_nil, es_val, es_vw, a_nil, a_val, a_vw, it_seq, it_rng, it_enum, opd_n, opd_s, t_set, t_unp, t_par, t_setIx, ownR_l, valR_d, t_aug, t_exp, t_app, frzR_s, t_frz, setS_lt, t_ife, t_ret, t_mov, t_retN, t_brk, t_cnt, t_pass, t_rais, t_tr, wp_try, h_nil, h_cons, then_nx, then_rt, then_bk, then_ct, b_nil, b_cons, after_nx, after_ct, after_bk, after_rt, after_no, after_so, fin_qn, fin_qr, so_vw, so_cst, so_var, so_glob, so_prim, so_sl, so_and, so_or, so_not, so_ife, so_one, so_tru, so_chain, so_call, so_lc, so_pop, snap_d, snap_l, Option.isSome_some, List.getD_cons_zero, List.getD_cons_succ, List.set_cons_zero, List.set_cons_succ, List.length_cons, List.length_nil, Nat.reduceAdd, Nat.reduceSub, Nat.reduceLT, Nat.reduceLeDiff, List.map_cons, List.map_nil, List.replicate, List.cons_append, List.nil_append, List.append_nil, outsOf, wipeE, backE, ownIx, putOuts, Option.toList, It.lk, Es.lk, items_l, items_t, slR_e, sl_t, sl_l, if_true, if_false, Bool.false_eq_true, Bool.true_and, Bool.and_true, Bool.not_true, Bool.not_false, Option.map_some, decide_true, decide_false, q_tup, q_lst, p_add, p_sub, p_mul, p_mod, p_div, p_pow18, p_lt, p_le, p_gt, p_ge, p_eq, p_ne, p_ixL, p_ixT, p_neg, p_lenL, p_lenT, p_int, p_intB, p_abs, p_min, p_max, p_tupL, p_tupT, p_listL, p_listT, p_dic, e_fld, e_prop, e_oeq, so_fld, so_prop, so_oeq, mk_nx, f_nil, f_cons]
  cases d with
  | tup ds =>
    obtain ⟨hl, hx⟩ := ht ds rfl
    simp only [isTp, cmp_le, wp_ok, wp_ex, wp_bind, bnd_ok, bnd_ex, bl_bind, boolR_b, cond_t, cond_f, e_cst, e_var, varR_d, someR_s, e_prim, e_sl, e_slv, e_and, e_or, e_one, e_not, e_tru, e_ife, e_chain, e_call, e_lc, e_pop, s_nil, s_cons, o_no, o_yes, intR_i, pt_no, pt_yes, es_nil, es_val, es_vw, a_nil, a_val, a_vw, it_seq, it_rng, it_enum, opd_n, opd_s, t_set, t_unp, t_par, t_setIx, ownR_l, valR_d, t_aug, t_exp, t_app, frzR_s, t_frz, setS_lt, t_ife, t_ret, t_mov, t_retN, t_brk, t_cnt, t_pass, t_rais, t_tr, wp_try, h_nil, h_cons, then_nx, then_rt, then_bk, then_ct, b_nil, b_cons, after_nx, after_ct, after_bk, after_rt, after_no, after_so, fin_qn, fin_qr, so_vw, so_cst, so_var, so_glob, so_prim, so_sl, so_and, so_or, so_not, so_ife, so_one, so_tru, so_chain, so_call, so_lc, so_pop, snap_d, snap_l, Option.isSome_some, List.getD_cons_zero, List.getD_cons_succ, List.set_cons_zero, List.set_cons_succ, List.length_cons, List.length_nil, Nat.reduceAdd, Nat.reduceSub, Nat.reduceLT, Nat.reduceLeDiff, List.map_cons, List.map_nil, List.replicate, List.cons_append, List.nil_append, List.append_nil, outsOf, wipeE, backE, ownIx, putOuts, Option.toList, It.lk, Es.lk, items_l, items_t, slR_e, sl_t, sl_l, if_true, if_false, Bool.false_eq_true, Bool.true_and, Bool.and_true, Bool.not_true, Bool.not_false, Option.map_some, decide_true, decide_false, q_tup, q_lst, p_add, p_sub, p_mul, p_mod, p_div, p_pow18, p_lt, p_le, p_gt, p_ge, p_eq, p_ne, p_ixL, p_ixT, p_neg, p_lenL, p_lenT, p_int, p_intB, p_abs, p_min, p_max, p_tupL, p_tupT, p_listL, p_listT, p_dic, e_fld, e_prop, e_oeq, so_fld, so_prop, so_oeq, mk_nx, f_nil, f_cons]
    by_cases h1 : 1 ≤ (ds.length : Int)
    · simp only [h1, e_globP g_belts, cmp_le, wp_ok, wp_ex, wp_bind, bnd_ok, bnd_ex, bl_bind, boolR_b, cond_t, cond_f, e_cst, e_var, varR_d, someR_s, e_prim, e_sl, e_slv, e_and, e_or, e_one, e_not, e_tru, e_ife, e_chain, e_call, e_lc, e_pop, s_nil, s_cons, o_no, o_yes, intR_i, pt_no, pt_yes, es_nil, es_val, es_vw, a_nil, a_val, a_vw, it_seq, it_rng, it_enum, opd_n, opd_s, t_set, t_unp, t_par, t_setIx, ownR_l, valR_d, t_aug, t_exp, t_app, frzR_s, t_frz, setS_lt, t_ife, t_ret, t_mov, t_retN, t_brk, t_cnt, t_pass, t_rais, t_tr, wp_try, h_nil, h_cons, then_nx, then_rt, then_bk, then_ct, b_nil, b_cons, after_nx, after_ct, after_bk, after_rt, after_no, after_so, fin_qn, fin_qr, so_vw, so_cst, so_var, so_glob, so_prim, so_sl, so_and, so_or, so_not, so_ife, so_one, so_tru, so_chain, so_call, so_lc, so_pop, snap_d, snap_l, Option.isSome_some, List.getD_cons_zero, List.getD_cons_succ, List.set_cons_zero, List.set_cons_succ, List.length_cons, List.length_nil, Nat.reduceAdd, Nat.reduceSub, Nat.reduceLT, Nat.reduceLeDiff, List.map_cons, List.map_nil, List.replicate, List.cons_append, List.nil_append, List.append_nil, outsOf, wipeE, backE, ownIx, putOuts, Option.toList, It.lk, Es.lk, items_l, items_t, slR_e, sl_t, sl_l, if_true, if_false, Bool.false_eq_true, Bool.true_and, Bool.and_true, Bool.not_true, Bool.not_false, Option.map_some, decide_true, decide_false, q_tup, q_lst, p_add, p_sub, p_mul, p_mod, p_div, p_pow18, p_lt, p_le, p_gt, p_ge, p_eq, p_ne, p_ixL, p_ixT, p_neg, p_lenL, p_lenT, p_int, p_intB, p_abs, p_min, p_max, p_tupL, p_tupT, p_listL, p_listT, p_dic, e_fld, e_prop, e_oeq, so_fld, so_prop, so_oeq, mk_nx, f_nil, f_cons]
      by_cases h2 : (ds.length : Int) ≤ 6
      · simp only [h2, wp_ok, wp_ex, wp_bind, bnd_ok, bnd_ex, bl_bind, boolR_b, cond_t, cond_f, e_cst, e_var, varR_d, someR_s, e_prim, e_sl, e_slv, e_and, e_or, e_one, e_not, e_tru, e_ife, e_chain, e_call, e_lc, e_pop, s_nil, s_cons, o_no, o_yes, intR_i, pt_no, pt_yes, es_nil, es_val, es_vw, a_nil, a_val, a_vw, it_seq, it_rng, it_enum, opd_n, opd_s, t_set, t_unp, t_par, t_setIx, ownR_l, valR_d, t_aug, t_exp, t_app, frzR_s, t_frz, setS_lt, t_ife, t_ret, t_mov, t_retN, t_brk, t_cnt, t_pass, t_rais, t_tr, wp_try, h_nil, h_cons, then_nx, then_rt, then_bk, then_ct, b_nil, b_cons, after_nx, after_ct, after_bk, after_rt, after_no, after_so, fin_qn, fin_qr, so_vw, so_cst, so_var, so_glob, so_prim, so_sl, so_and, so_or, so_not, so_ife, so_one, so_tru, so_chain, so_call, so_lc, so_pop, snap_d, snap_l, Option.isSome_some, List.getD_cons_zero, List.getD_cons_succ, List.set_cons_zero, List.set_cons_succ, List.length_cons, List.length_nil, Nat.reduceAdd, Nat.reduceSub, Nat.reduceLT, Nat.reduceLeDiff, List.map_cons, List.map_nil, List.replicate, List.cons_append, List.nil_append, List.append_nil, outsOf, wipeE, backE, ownIx, putOuts, Option.toList, It.lk, Es.lk, items_l, items_t, slR_e, sl_t, sl_l, if_true, if_false, Bool.false_eq_true, Bool.true_and, Bool.and_true, Bool.not_true, Bool.not_false, Option.map_some, decide_true, decide_false, q_tup, q_lst, p_add, p_sub, p_mul, p_mod, p_div, p_pow18, p_lt, p_le, p_gt, p_ge, p_eq, p_ne, p_ixL, p_ixT, p_neg, p_lenL, p_lenT, p_int, p_intB, p_abs, p_min, p_max, p_tupL, p_tupT, p_listL, p_listT, p_dic, e_fld, e_prop, e_oeq, so_fld, so_prop, so_oeq, mk_nx, f_nil, f_cons]
        refine wp_map (fun x => .bl (okI x)) (by omega) ?_ fun x hm => ?_
        · simp only [all_bl, wp_ok, wp_ex, wp_bind, bnd_ok, bnd_ex, bl_bind, boolR_b, cond_t, cond_f, e_cst, e_var, varR_d, someR_s, e_prim, e_sl, e_slv, e_and, e_or, e_one, e_not, e_tru, e_ife, e_chain, e_call, e_lc, e_pop, s_nil, s_cons, o_no, o_yes, intR_i, pt_no, pt_yes, es_nil, es_val, es_vw, a_nil, a_val, a_vw, it_seq, it_rng, it_enum, opd_n, opd_s, t_set, t_unp, t_par, t_setIx, ownR_l, valR_d, t_aug, t_exp, t_app, frzR_s, t_frz, setS_lt, t_ife, t_ret, t_mov, t_retN, t_brk, t_cnt, t_pass, t_rais, t_tr, wp_try, h_nil, h_cons, then_nx, then_rt, then_bk, then_ct, b_nil, b_cons, after_nx, after_ct, after_bk, after_rt, after_no, after_so, fin_qn, fin_qr, so_vw, so_cst, so_var, so_glob, so_prim, so_sl, so_and, so_or, so_not, so_ife, so_one, so_tru, so_chain, so_call, so_lc, so_pop, snap_d, snap_l, Option.isSome_some, List.getD_cons_zero, List.getD_cons_succ, List.set_cons_zero, List.set_cons_succ, List.length_cons, List.length_nil, Nat.reduceAdd, Nat.reduceSub, Nat.reduceLT, Nat.reduceLeDiff, List.map_cons, List.map_nil, List.replicate, List.cons_append, List.nil_append, List.append_nil, outsOf, wipeE, backE, ownIx, putOuts, Option.toList, It.lk, Es.lk, items_l, items_t, slR_e, sl_t, sl_l, if_true, if_false, Bool.false_eq_true, Bool.true_and, Bool.and_true, Bool.not_true, Bool.not_false, Option.map_some, decide_true, decide_false, q_tup, q_lst, p_add, p_sub, p_mul, p_mod, p_div, p_pow18, p_lt, p_le, p_gt, p_ge, p_eq, p_ne, p_ixL, p_ixT, p_neg, p_lenL, p_lenT, p_int, p_intB, p_abs, p_min, p_max, p_tupL, p_tupT, p_listL, p_listT, p_dic, e_fld, e_prop, e_oeq, so_fld, so_prop, so_oeq, mk_nx, f_nil, f_cons]
          cases h3 : ds.all okI with
          | false =>
            simp only [wp_ok, wp_ex, wp_bind, bnd_ok, bnd_ex, bl_bind, boolR_b, cond_t, cond_f, e_cst, e_var, varR_d, someR_s, e_prim, e_sl, e_slv, e_and, e_or, e_one, e_not, e_tru, e_ife, e_chain, e_call, e_lc, e_pop, s_nil, s_cons, o_no, o_yes, intR_i, pt_no, pt_yes, es_nil, es_val, es_vw, a_nil, a_val, a_vw, it_seq, it_rng, it_enum, opd_n, opd_s, t_set, t_unp, t_par, t_setIx, ownR_l, valR_d, t_aug, t_exp, t_app, frzR_s, t_frz, setS_lt, t_ife, t_ret, t_mov, t_retN, t_brk, t_cnt, t_pass, t_rais, t_tr, wp_try, h_nil, h_cons, then_nx, then_rt, then_bk, then_ct, b_nil, b_cons, after_nx, after_ct, after_bk, after_rt, after_no, after_so, fin_qn, fin_qr, so_vw, so_cst, so_var, so_glob, so_prim, so_sl, so_and, so_or, so_not, so_ife, so_one, so_tru, so_chain, so_call, so_lc, so_pop, snap_d, snap_l, Option.isSome_some, List.getD_cons_zero, List.getD_cons_succ, List.set_cons_zero, List.set_cons_succ, List.length_cons, List.length_nil, Nat.reduceAdd, Nat.reduceSub, Nat.reduceLT, Nat.reduceLeDiff, List.map_cons, List.map_nil, List.replicate, List.cons_append, List.nil_append, List.append_nil, outsOf, wipeE, backE, ownIx, putOuts, Option.toList, It.lk, Es.lk, items_l, items_t, slR_e, sl_t, sl_l, if_true, if_false, Bool.false_eq_true, Bool.true_and, Bool.and_true, Bool.not_true, Bool.not_false, Option.map_some, decide_true, decide_false, q_tup, q_lst, p_add, p_sub, p_mul, p_mod, p_div, p_pow18, p_lt, p_le, p_gt, p_ge, p_eq, p_ne, p_ixL, p_ixT, p_neg, p_lenL, p_lenT, p_int, p_intB, p_abs, p_min, p_max, p_tupL, p_tupT, p_listL, p_listT, p_dic, e_fld, e_prop, e_oeq, so_fld, so_prop, so_oeq, mk_nx, f_nil, f_cons]
            exact ⟨by rw [machB_t, h3, Bool.and_false, Bool.false_and], by trivial⟩
          | true =>
            simp only [sum_t (okI_int h3), e_globP g_size, wp_ok, wp_ex, wp_bind, bnd_ok, bnd_ex, bl_bind, boolR_b, cond_t, cond_f, e_cst, e_var, varR_d, someR_s, e_prim, e_sl, e_slv, e_and, e_or, e_one, e_not, e_tru, e_ife, e_chain, e_call, e_lc, e_pop, s_nil, s_cons, o_no, o_yes, intR_i, pt_no, pt_yes, es_nil, es_val, es_vw, a_nil, a_val, a_vw, it_seq, it_rng, it_enum, opd_n, opd_s, t_set, t_unp, t_par, t_setIx, ownR_l, valR_d, t_aug, t_exp, t_app, frzR_s, t_frz, setS_lt, t_ife, t_ret, t_mov, t_retN, t_brk, t_cnt, t_pass, t_rais, t_tr, wp_try, h_nil, h_cons, then_nx, then_rt, then_bk, then_ct, b_nil, b_cons, after_nx, after_ct, after_bk, after_rt, after_no, after_so, fin_qn, fin_qr, so_vw, so_cst, so_var, so_glob, so_prim, so_sl, so_and, so_or, so_not, so_ife, so_one, so_tru, so_chain, so_call, so_lc, so_pop, snap_d, snap_l, Option.isSome_some, List.getD_cons_zero, List.getD_cons_succ, List.set_cons_zero, List.set_cons_succ, List.length_cons, List.length_nil, Nat.reduceAdd, Nat.reduceSub, Nat.reduceLT, Nat.reduceLeDiff, List.map_cons, List.map_nil, List.replicate, List.cons_append, List.nil_append, List.append_nil, outsOf, wipeE, backE, ownIx, putOuts, Option.toList, It.lk, Es.lk, items_l, items_t, slR_e, sl_t, sl_l, if_true, if_false, Bool.false_eq_true, Bool.true_and, Bool.and_true, Bool.not_true, Bool.not_false, Option.map_some, decide_true, decide_false, q_tup, q_lst, p_add, p_sub, p_mul, p_mod, p_div, p_pow18, p_lt, p_le, p_gt, p_ge, p_eq, p_ne, p_ixL, p_ixT, p_neg, p_lenL, p_lenT, p_int, p_intB, p_abs, p_min, p_max, p_tupL, p_tupT, p_listL, p_listT, p_dic, e_fld, e_prop, e_oeq, so_fld, so_prop, so_oeq, mk_nx, f_nil, f_cons]
            exact ⟨by rw [machB_t, sumI, h3, decide_eq_true h1, decide_eq_true h2]; rfl, by trivial⟩
        · rw [lcT_n _ (by show 1 < 2; decide)]
          simp only [wp_ok, wp_ex, wp_bind, bnd_ok, bnd_ex, bl_bind, boolR_b, cond_t, cond_f, e_cst, e_var, varR_d, someR_s, e_prim, e_sl, e_slv, e_and, e_or, e_one, e_not, e_tru, e_ife, e_chain, e_call, e_lc, e_pop, s_nil, s_cons, o_no, o_yes, intR_i, pt_no, pt_yes, es_nil, es_val, es_vw, a_nil, a_val, a_vw, it_seq, it_rng, it_enum, opd_n, opd_s, t_set, t_unp, t_par, t_setIx, ownR_l, valR_d, t_aug, t_exp, t_app, frzR_s, t_frz, setS_lt, t_ife, t_ret, t_mov, t_retN, t_brk, t_cnt, t_pass, t_rais, t_tr, wp_try, h_nil, h_cons, then_nx, then_rt, then_bk, then_ct, b_nil, b_cons, after_nx, after_ct, after_bk, after_rt, after_no, after_so, fin_qn, fin_qr, so_vw, so_cst, so_var, so_glob, so_prim, so_sl, so_and, so_or, so_not, so_ife, so_one, so_tru, so_chain, so_call, so_lc, so_pop, snap_d, snap_l, Option.isSome_some, List.getD_cons_zero, List.getD_cons_succ, List.set_cons_zero, List.set_cons_succ, List.length_cons, List.length_nil, Nat.reduceAdd, Nat.reduceSub, Nat.reduceLT, Nat.reduceLeDiff, List.map_cons, List.map_nil, List.replicate, List.cons_append, List.nil_append, List.append_nil, outsOf, wipeE, backE, ownIx, putOuts, Option.toList, It.lk, Es.lk, items_l, items_t, slR_e, sl_t, sl_l, if_true, if_false, Bool.false_eq_true, Bool.true_and, Bool.and_true, Bool.not_true, Bool.not_false, Option.map_some, decide_true, decide_false, q_tup, q_lst, p_add, p_sub, p_mul, p_mod, p_div, p_pow18, p_lt, p_le, p_gt, p_ge, p_eq, p_ne, p_ixL, p_ixT, p_neg, p_lenL, p_lenT, p_int, p_intB, p_abs, p_min, p_max, p_tupL, p_tupT, p_listL, p_listT, p_dic, e_fld, e_prop, e_oeq, so_fld, so_prop, so_oeq, mk_nx, f_nil, f_cons]
          refine wp_pure (is_integer_ok k (hx x hm)) rfl rfl ?_
          simp only [wp_ok, wp_ex, wp_bind, bnd_ok, bnd_ex, bl_bind, boolR_b, cond_t, cond_f, e_cst, e_var, varR_d, someR_s, e_prim, e_sl, e_slv, e_and, e_or, e_one, e_not, e_tru, e_ife, e_chain, e_call, e_lc, e_pop, s_nil, s_cons, o_no, o_yes, intR_i, pt_no, pt_yes, es_nil, es_val, es_vw, a_nil, a_val, a_vw, it_seq, it_rng, it_enum, opd_n, opd_s, t_set, t_unp, t_par, t_setIx, ownR_l, valR_d, t_aug, t_exp, t_app, frzR_s, t_frz, setS_lt, t_ife, t_ret, t_mov, t_retN, t_brk, t_cnt, t_pass, t_rais, t_tr, wp_try, h_nil, h_cons, then_nx, then_rt, then_bk, then_ct, b_nil, b_cons, after_nx, after_ct, after_bk, after_rt, after_no, after_so, fin_qn, fin_qr, so_vw, so_cst, so_var, so_glob, so_prim, so_sl, so_and, so_or, so_not, so_ife, so_one, so_tru, so_chain, so_call, so_lc, so_pop, snap_d, snap_l, Option.isSome_some, List.getD_cons_zero, List.getD_cons_succ, List.set_cons_zero, List.set_cons_succ, List.length_cons, List.length_nil, Nat.reduceAdd, Nat.reduceSub, Nat.reduceLT, Nat.reduceLeDiff, List.map_cons, List.map_nil, List.replicate, List.cons_append, List.nil_append, List.append_nil, outsOf, wipeE, backE, ownIx, putOuts, Option.toList, It.lk, Es.lk, items_l, items_t, slR_e, sl_t, sl_l, if_true, if_false, Bool.false_eq_true, Bool.true_and, Bool.and_true, Bool.not_true, Bool.not_false, Option.map_some, decide_true, decide_false, q_tup, q_lst, p_add, p_sub, p_mul, p_mod, p_div, p_pow18, p_lt, p_le, p_gt, p_ge, p_eq, p_ne, p_ixL, p_ixT, p_neg, p_lenL, p_lenT, p_int, p_intB, p_abs, p_min, p_max, p_tupL, p_tupT, p_listL, p_listT, p_dic, e_fld, e_prop, e_oeq, so_fld, so_prop, so_oeq, mk_nx, f_nil, f_cons]
          cases x with
          | int i =>
            simp only [D.isInt, cmp_le, wp_ok, wp_ex, wp_bind, bnd_ok, bnd_ex, bl_bind, boolR_b, cond_t, cond_f, e_cst, e_var, varR_d, someR_s, e_prim, e_sl, e_slv, e_and, e_or, e_one, e_not, e_tru, e_ife, e_chain, e_call, e_lc, e_pop, s_nil, s_cons, o_no, o_yes, intR_i, pt_no, pt_yes, es_nil, es_val, es_vw, a_nil, a_val, a_vw, it_seq, it_rng, it_enum, opd_n, opd_s, t_set, t_unp, t_par, t_setIx, ownR_l, valR_d, t_aug, t_exp, t_app, frzR_s, t_frz, setS_lt, t_ife, t_ret, t_mov, t_retN, t_brk, t_cnt, t_pass, t_rais, t_tr, wp_try, h_nil, h_cons, then_nx, then_rt, then_bk, then_ct, b_nil, b_cons, after_nx, after_ct, after_bk, after_rt, after_no, after_so, fin_qn, fin_qr, so_vw, so_cst, so_var, so_glob, so_prim, so_sl, so_and, so_or, so_not, so_ife, so_one, so_tru, so_chain, so_call, so_lc, so_pop, snap_d, snap_l, Option.isSome_some, List.getD_cons_zero, List.getD_cons_succ, List.set_cons_zero, List.set_cons_succ, List.length_cons, List.length_nil, Nat.reduceAdd, Nat.reduceSub, Nat.reduceLT, Nat.reduceLeDiff, List.map_cons, List.map_nil, List.replicate, List.cons_append, List.nil_append, List.append_nil, outsOf, wipeE, backE, ownIx, putOuts, Option.toList, It.lk, Es.lk, items_l, items_t, slR_e, sl_t, sl_l, if_true, if_false, Bool.false_eq_true, Bool.true_and, Bool.and_true, Bool.not_true, Bool.not_false, Option.map_some, decide_true, decide_false, q_tup, q_lst, p_add, p_sub, p_mul, p_mod, p_div, p_pow18, p_lt, p_le, p_gt, p_ge, p_eq, p_ne, p_ixL, p_ixT, p_neg, p_lenL, p_lenT, p_int, p_intB, p_abs, p_min, p_max, p_tupL, p_tupT, p_listL, p_listT, p_dic, e_fld, e_prop, e_oeq, so_fld, so_prop, so_oeq, mk_nx, f_nil, f_cons]
            by_cases h3 : 1 ≤ i
            · simp only [h3, e_globP g_rooms, cmp_le, wp_ok, wp_ex, wp_bind, bnd_ok, bnd_ex, bl_bind, boolR_b, cond_t, cond_f, e_cst, e_var, varR_d, someR_s, e_prim, e_sl, e_slv, e_and, e_or, e_one, e_not, e_tru, e_ife, e_chain, e_call, e_lc, e_pop, s_nil, s_cons, o_no, o_yes, intR_i, pt_no, pt_yes, es_nil, es_val, es_vw, a_nil, a_val, a_vw, it_seq, it_rng, it_enum, opd_n, opd_s, t_set, t_unp, t_par, t_setIx, ownR_l, valR_d, t_aug, t_exp, t_app, frzR_s, t_frz, setS_lt, t_ife, t_ret, t_mov, t_retN, t_brk, t_cnt, t_pass, t_rais, t_tr, wp_try, h_nil, h_cons, then_nx, then_rt, then_bk, then_ct, b_nil, b_cons, after_nx, after_ct, after_bk, after_rt, after_no, after_so, fin_qn, fin_qr, so_vw, so_cst, so_var, so_glob, so_prim, so_sl, so_and, so_or, so_not, so_ife, so_one, so_tru, so_chain, so_call, so_lc, so_pop, snap_d, snap_l, Option.isSome_some, List.getD_cons_zero, List.getD_cons_succ, List.set_cons_zero, List.set_cons_succ, List.length_cons, List.length_nil, Nat.reduceAdd, Nat.reduceSub, Nat.reduceLT, Nat.reduceLeDiff, List.map_cons, List.map_nil, List.replicate, List.cons_append, List.nil_append, List.append_nil, outsOf, wipeE, backE, ownIx, putOuts, Option.toList, It.lk, Es.lk, items_l, items_t, slR_e, sl_t, sl_l, if_true, if_false, Bool.false_eq_true, Bool.true_and, Bool.and_true, Bool.not_true, Bool.not_false, Option.map_some, decide_true, decide_false, q_tup, q_lst, p_add, p_sub, p_mul, p_mod, p_div, p_pow18, p_lt, p_le, p_gt, p_ge, p_eq, p_ne, p_ixL, p_ixT, p_neg, p_lenL, p_lenT, p_int, p_intB, p_abs, p_min, p_max, p_tupL, p_tupT, p_listL, p_listT, p_dic, e_fld, e_prop, e_oeq, so_fld, so_prop, so_oeq, mk_nx, f_nil, f_cons]
              exact ⟨by rw [okI_i, decide_eq_true h3]; rfl, trivial⟩
            · simp only [h3, wp_ok, wp_ex, wp_bind, bnd_ok, bnd_ex, bl_bind, boolR_b, cond_t, cond_f, e_cst, e_var, varR_d, someR_s, e_prim, e_sl, e_slv, e_and, e_or, e_one, e_not, e_tru, e_ife, e_chain, e_call, e_lc, e_pop, s_nil, s_cons, o_no, o_yes, intR_i, pt_no, pt_yes, es_nil, es_val, es_vw, a_nil, a_val, a_vw, it_seq, it_rng, it_enum, opd_n, opd_s, t_set, t_unp, t_par, t_setIx, ownR_l, valR_d, t_aug, t_exp, t_app, frzR_s, t_frz, setS_lt, t_ife, t_ret, t_mov, t_retN, t_brk, t_cnt, t_pass, t_rais, t_tr, wp_try, h_nil, h_cons, then_nx, then_rt, then_bk, then_ct, b_nil, b_cons, after_nx, after_ct, after_bk, after_rt, after_no, after_so, fin_qn, fin_qr, so_vw, so_cst, so_var, so_glob, so_prim, so_sl, so_and, so_or, so_not, so_ife, so_one, so_tru, so_chain, so_call, so_lc, so_pop, snap_d, snap_l, Option.isSome_some, List.getD_cons_zero, List.getD_cons_succ, List.set_cons_zero, List.set_cons_succ, List.length_cons, List.length_nil, Nat.reduceAdd, Nat.reduceSub, Nat.reduceLT, Nat.reduceLeDiff, List.map_cons, List.map_nil, List.replicate, List.cons_append, List.nil_append, List.append_nil, outsOf, wipeE, backE, ownIx, putOuts, Option.toList, It.lk, Es.lk, items_l, items_t, slR_e, sl_t, sl_l, if_true, if_false, Bool.false_eq_true, Bool.true_and, Bool.and_true, Bool.not_true, Bool.not_false, Option.map_some, decide_true, decide_false, q_tup, q_lst, p_add, p_sub, p_mul, p_mod, p_div, p_pow18, p_lt, p_le, p_gt, p_ge, p_eq, p_ne, p_ixL, p_ixT, p_neg, p_lenL, p_lenT, p_int, p_intB, p_abs, p_min, p_max, p_tupL, p_tupT, p_listL, p_listT, p_dic, e_fld, e_prop, e_oeq, so_fld, so_prop, so_oeq, mk_nx, f_nil, f_cons]
              exact ⟨by rw [okI_i, decide_eq_false h3]; rfl, trivial⟩
          | _ => simp only [D.isInt, wp_ok, wp_ex, wp_bind, bnd_ok, bnd_ex, bl_bind, boolR_b, cond_t, cond_f, e_cst, e_var, varR_d, someR_s, e_prim, e_sl, e_slv, e_and, e_or, e_one, e_not, e_tru, e_ife, e_chain, e_call, e_lc, e_pop, s_nil, s_cons, o_no, o_yes, intR_i, pt_no, pt_yes, es_nil, es_val, es_vw, a_nil, a_val, a_vw, it_seq, it_rng, it_enum, opd_n, opd_s, t_set, t_unp, t_par, t_setIx, ownR_l, valR_d, t_aug, t_exp, t_app, frzR_s, t_frz, setS_lt, t_ife, t_ret, t_mov, t_retN, t_brk, t_cnt, t_pass, t_rais, t_tr, wp_try, h_nil, h_cons, then_nx, then_rt, then_bk, then_ct, b_nil, b_cons, after_nx, after_ct, after_bk, after_rt, after_no, after_so, fin_qn, fin_qr, so_vw, so_cst, so_var, so_glob, so_prim, so_sl, so_and, so_or, so_not, so_ife, so_one, so_tru, so_chain, so_call, so_lc, so_pop, snap_d, snap_l, Option.isSome_some, List.getD_cons_zero, List.getD_cons_succ, List.set_cons_zero, List.set_cons_succ, List.length_cons, List.length_nil, Nat.reduceAdd, Nat.reduceSub, Nat.reduceLT, Nat.reduceLeDiff, List.map_cons, List.map_nil, List.replicate, List.cons_append, List.nil_append, List.append_nil, outsOf, wipeE, backE, ownIx, putOuts, Option.toList, It.lk, Es.lk, items_l, items_t, slR_e, sl_t, sl_l, if_true, if_false, Bool.false_eq_true, Bool.true_and, Bool.and_true, Bool.not_true, Bool.not_false, Option.map_some, decide_true, decide_false, q_tup, q_lst, p_add, p_sub, p_mul, p_mod, p_div, p_pow18, p_lt, p_le, p_gt, p_ge, p_eq, p_ne, p_ixL, p_ixT, p_neg, p_lenL, p_lenT, p_int, p_intB, p_abs, p_min, p_max, p_tupL, p_tupT, p_listL, p_listT, p_dic, e_fld, e_prop, e_oeq, so_fld, so_prop, so_oeq, mk_nx, f_nil, f_cons]; exact ⟨by trivial, by trivial⟩
      · simp only [h2, wp_ok, wp_ex, wp_bind, bnd_ok, bnd_ex, bl_bind, boolR_b, cond_t, cond_f, e_cst, e_var, varR_d, someR_s, e_prim, e_sl, e_slv, e_and, e_or, e_one, e_not, e_tru, e_ife, e_chain, e_call, e_lc, e_pop, s_nil, s_cons, o_no, o_yes, intR_i, pt_no, pt_yes, es_nil, es_val, es_vw, a_nil, a_val, a_vw, it_seq, it_rng, it_enum, opd_n, opd_s, t_set, t_unp, t_par, t_setIx, ownR_l, valR_d, t_aug, t_exp, t_app, frzR_s, t_frz, setS_lt, t_ife, t_ret, t_mov, t_retN, t_brk, t_cnt, t_pass, t_rais, t_tr, wp_try, h_nil, h_cons, then_nx, then_rt, then_bk, then_ct, b_nil, b_cons, after_nx, after_ct, after_bk, after_rt, after_no, after_so, fin_qn, fin_qr, so_vw, so_cst, so_var, so_glob, so_prim, so_sl, so_and, so_or, so_not, so_ife, so_one, so_tru, so_chain, so_call, so_lc, so_pop, snap_d, snap_l, Option.isSome_some, List.getD_cons_zero, List.getD_cons_succ, List.set_cons_zero, List.set_cons_succ, List.length_cons, List.length_nil, Nat.reduceAdd, Nat.reduceSub, Nat.reduceLT, Nat.reduceLeDiff, List.map_cons, List.map_nil, List.replicate, List.cons_append, List.nil_append, List.append_nil, outsOf, wipeE, backE, ownIx, putOuts, Option.toList, It.lk, Es.lk, items_l, items_t, slR_e, sl_t, sl_l, if_true, if_false, Bool.false_eq_true, Bool.true_and, Bool.and_true, Bool.not_true, Bool.not_false, Option.map_some, decide_true, decide_false, q_tup, q_lst, p_add, p_sub, p_mul, p_mod, p_div, p_pow18, p_lt, p_le, p_gt, p_ge, p_eq, p_ne, p_ixL, p_ixT, p_neg, p_lenL, p_lenT, p_int, p_intB, p_abs, p_min, p_max, p_tupL, p_tupT, p_listL, p_listT, p_dic, e_fld, e_prop, e_oeq, so_fld, so_prop, so_oeq, mk_nx, f_nil, f_cons]
        exact ⟨by rw [machB_t, decide_eq_false h2, Bool.and_false, Bool.false_and, Bool.false_and], by trivial⟩
    · simp only [h1, wp_ok, wp_ex, wp_bind, bnd_ok, bnd_ex, bl_bind, boolR_b, cond_t, cond_f, e_cst, e_var, varR_d, someR_s, e_prim, e_sl, e_slv, e_and, e_or, e_one, e_not, e_tru, e_ife, e_chain, e_call, e_lc, e_pop, s_nil, s_cons, o_no, o_yes, intR_i, pt_no, pt_yes, es_nil, es_val, es_vw, a_nil, a_val, a_vw, it_seq, it_rng, it_enum, opd_n, opd_s, t_set, t_unp, t_par, t_setIx, ownR_l, valR_d, t_aug, t_exp, t_app, frzR_s, t_frz, setS_lt, t_ife, t_ret, t_mov, t_retN, t_brk, t_cnt, t_pass, t_rais, t_tr, wp_try, h_nil, h_cons, then_nx, then_rt, then_bk, then_ct, b_nil, b_cons, after_nx, after_ct, after_bk, after_rt, after_no, after_so, fin_qn, fin_qr, so_vw, so_cst, so_var, so_glob, so_prim, so_sl, so_and, so_or, so_not, so_ife, so_one, so_tru, so_chain, so_call, so_lc, so_pop, snap_d, snap_l, Option.isSome_some, List.getD_cons_zero, List.getD_cons_succ, List.set_cons_zero, List.set_cons_succ, List.length_cons, List.length_nil, Nat.reduceAdd, Nat.reduceSub, Nat.reduceLT, Nat.reduceLeDiff, List.map_cons, List.map_nil, List.replicate, List.cons_append, List.nil_append, List.append_nil, outsOf, wipeE, backE, ownIx, putOuts, Option.toList, It.lk, Es.lk, items_l, items_t, slR_e, sl_t, sl_l, if_true, if_false, Bool.false_eq_true, Bool.true_and, Bool.and_true, Bool.not_true, Bool.not_false, Option.map_some, decide_true, decide_false, q_tup, q_lst, p_add, p_sub, p_mul, p_mod, p_div, p_pow18, p_lt, p_le, p_gt, p_ge, p_eq, p_ne, p_ixL, p_ixT, p_neg, p_lenL, p_lenT, p_int, p_intB, p_abs, p_min, p_max, p_tupL, p_tupT, p_listL, p_listT, p_dic, e_fld, e_prop, e_oeq, so_fld, so_prop, so_oeq, mk_nx, f_nil, f_cons]
      exact ⟨by rw [machB_t, decide_eq_false h1, Bool.false_and, Bool.false_and, Bool.false_and], by trivial⟩
  | _ => simp only [isTp, wp_ok, wp_ex, wp_bind, bnd_ok, bnd_ex, bl_bind, boolR_b, cond_t, cond_f, e_cst, e_var, varR_d, someR_s, e_prim, e_sl, e_slv, e_and, e_or, e_one, e_not, e_tru, e_ife, e_chain, e_call, e_lc, e_pop, s_nil, s_cons, o_no, o_yes, intR_i, pt_no, pt_yes, es_nil, es_val, es_vw, a_nil, a_val, a_vw, it_seq, it_rng, it_enum, opd_n, opd_s, t_set, t_unp, t_par, t_setIx, ownR_l, valR_d, t_aug, t_exp, t_app, frzR_s, t_frz, setS_lt, t_ife, t_ret, t_mov, t_retN, t_brk, t_cnt, t_pass, t_rais, t_tr, wp_try, h_nil, h_cons, then_nx, then_rt, then_bk, then_ct, b_nil, b_cons, after_nx, after_ct, after_bk, after_rt, after_no, after_so, fin_qn, fin_qr, so_vw, so_cst, so_var, so_glob, so_prim, so_sl, so_and, so_or, so_not, so_ife, so_one, so_tru, so_chain, so_call, so_lc, so_pop, snap_d, snap_l, Option.isSome_some, List.getD_cons_zero, List.getD_cons_succ, List.set_cons_zero, List.set_cons_succ, List.length_cons, List.length_nil, Nat.reduceAdd, Nat.reduceSub, Nat.reduceLT, Nat.reduceLeDiff, List.map_cons, List.map_nil, List.replicate, List.cons_append, List.nil_append, List.append_nil, outsOf, wipeE, backE, ownIx, putOuts, Option.toList, It.lk, Es.lk, items_l, items_t, slR_e, sl_t, sl_l, if_true, if_false, Bool.false_eq_true, Bool.true_and, Bool.and_true, Bool.not_true, Bool.not_false, Option.map_some, decide_true, decide_false, q_tup, q_lst, p_add, p_sub, p_mul, p_mod, p_div, p_pow18, p_lt, p_le, p_gt, p_ge, p_eq, p_ne, p_ixL, p_ixT, p_neg, p_lenL, p_lenT, p_int, p_intB, p_abs, p_min, p_max, p_tupL, p_tupT, p_listL, p_listT, p_dic, e_fld, e_prop, e_oeq, so_fld, so_prop, so_oeq, mk_nx, f_nil, f_cons]; exact ⟨by trivial, by trivial⟩
theorem law_is_machine_ok (k : Nat) {d : D} (h : Thing d) : P.call (k + 1) 9 [.d d] = .ok (.d (.bl (machB d))) [] := by
  obtain ⟨hk, ht⟩ := h
  apply wp_eq
  refine wp_def (fn := c__law_is_machine) rfl rfl rfl ?_
  simp only [c__law_is_machine, e_globP g_tuple, i_tuple hk, wp_ok, wp_ex, wp_bind, bnd_ok, bnd_ex, bl_bind, boolR_b, cond_t, cond_f, e_cst, e_var, varR_d, someR_s, e_prim, e_sl, e_slv, e_and, e_or, e_one, e_not, e_tru, e_ife, e_chain, e_call, e_lc, e_pop, s_nil, s_cons, o_no, o_yes, intR_i, pt_no, pt_yes, es_nil, es_val, es_vw, a_nil, a_val, a_vw, it_seq, it_rng, it_enum, opd_n, opd_s, t_set, t_unp, t_par, t_setIx, ownR_l, valR_d, t_aug, t_exp, t_app, frzR_s, t_frz, setS_lt, t_ife, t_ret, t_mov, t_retN, t_brk, t_cnt, t_pass, t_rais, t_tr, wp_try, h_nil, h_cons, then_nx, then_rt, then_bk, then_ct, b_nil, b_cons, after_nx, after_ct, after_bk, after_rt, after_no, after_so, fin_qn, fin_qr, so_vw, so_cst, so_var, so_glob, so_prim, so_sl, so_and, so_or, so_not, so_ife, so_one, so_tru, so_chain, so_call, so_lc, so_pop, snap_d, snap_l, Option.isSome_some, List.getD_cons_zero, List.getD_cons_succ, List.set_cons_zero, List.set_cons_succ, List.length_cons, List.length_nil, Nat.reduceAdd, Nat.reduceSub, Nat.reduceLT, Nat.reduceLeDiff, List.map_cons, List.map_nil, List.replicate, List.cons_append, List.nil_append, List.append_nil, outsOf, wipeE, backE, ownIx, putOuts, Option.toList, It.lk, Es.lk, items_l, items_t, slR_e, sl_t, sl_l, if_true, if_false, Bool.false_eq_true, Bool.true_and, Bool.and_true, Bool.not_true, Bool.not_false, Option.map_some, decide_true, decide_false, q_tup, q_lst, p_add, p_sub, p_mul, p_mod, p_div, p_pow18, p_lt, p_le, p_gt, p_ge, p_eq, p_ne, p_ixL, p_ixT, p_neg, p_lenL, p_lenT, p_int, p_intB, p_abs, p_min, p_max, p_tupL, p_tupT, p_listL, p_listT, p_dic, e_fld, e_prop, e_oeq, so_fld, so_prop, so_oeq, mk_nx, f_nil, f_cons]
  cases d with
  | tup ds =>
    obtain ⟨hl, hx⟩ := ht ds rfl
    simp only [isTp, cmp_le, wp_ok, wp_ex, wp_bind, bnd_ok, bnd_ex, bl_bind, boolR_b, cond_t, cond_f, e_cst, e_var, varR_d, someR_s, e_prim, e_sl, e_slv, e_and, e_or, e_one, e_not, e_tru, e_ife, e_chain, e_call, e_lc, e_pop, s_nil, s_cons, o_no, o_yes, intR_i, pt_no, pt_yes, es_nil, es_val, es_vw, a_nil, a_val, a_vw, it_seq, it_rng, it_enum, opd_n, opd_s, t_set, t_unp, t_par, t_setIx, ownR_l, valR_d, t_aug, t_exp, t_app, frzR_s, t_frz, setS_lt, t_ife, t_ret, t_mov, t_retN, t_brk, t_cnt, t_pass, t_rais, t_tr, wp_try, h_nil, h_cons, then_nx, then_rt, then_bk, then_ct, b_nil, b_cons, after_nx, after_ct, after_bk, after_rt, after_no, after_so, fin_qn, fin_qr, so_vw, so_cst, so_var, so_glob, so_prim, so_sl, so_and, so_or, so_not, so_ife, so_one, so_tru, so_chain, so_call, so_lc, so_pop, snap_d, snap_l, Option.isSome_some, List.getD_cons_zero, List.getD_cons_succ, List.set_cons_zero, List.set_cons_succ, List.length_cons, List.length_nil, Nat.reduceAdd, Nat.reduceSub, Nat.reduceLT, Nat.reduceLeDiff, List.map_cons, List.map_nil, List.replicate, List.cons_append, List.nil_append, List.append_nil, outsOf, wipeE, backE, ownIx, putOuts, Option.toList, It.lk, Es.lk, items_l, items_t, slR_e, sl_t, sl_l, if_true, if_false, Bool.false_eq_true, Bool.true_and, Bool.and_true, Bool.not_true, Bool.not_false, Option.map_some, decide_true, decide_false, q_tup, q_lst, p_add, p_sub, p_mul, p_mod, p_div, p_pow18, p_lt, p_le, p_gt, p_ge, p_eq, p_ne, p_ixL, p_ixT, p_neg, p_lenL, p_lenT, p_int, p_intB, p_abs, p_min, p_max, p_tupL, p_tupT, p_listL, p_listT, p_dic, e_fld, e_prop, e_oeq, so_fld, so_prop, so_oeq, mk_nx, f_nil, f_cons]
    by_cases h1 : 1 ≤ (ds.length : Int)
    · simp only [h1, cmp_le, wp_ok, wp_ex, wp_bind, bnd_ok, bnd_ex, bl_bind, boolR_b, cond_t, cond_f, e_cst, e_var, varR_d, someR_s, e_prim, e_sl, e_slv, e_and, e_or, e_one, e_not, e_tru, e_ife, e_chain, e_call, e_lc, e_pop, s_nil, s_cons, o_no, o_yes, intR_i, pt_no, pt_yes, es_nil, es_val, es_vw, a_nil, a_val, a_vw, it_seq, it_rng, it_enum, opd_n, opd_s, t_set, t_unp, t_par, t_setIx, ownR_l, valR_d, t_aug, t_exp, t_app, frzR_s, t_frz, setS_lt, t_ife, t_ret, t_mov, t_retN, t_brk, t_cnt, t_pass, t_rais, t_tr, wp_try, h_nil, h_cons, then_nx, then_rt, then_bk, then_ct, b_nil, b_cons, after_nx, after_ct, after_bk, after_rt, after_no, after_so, fin_qn, fin_qr, so_vw, so_cst, so_var, so_glob, so_prim, so_sl, so_and, so_or, so_not, so_ife, so_one, so_tru, so_chain, so_call, so_lc, so_pop, snap_d, snap_l, Option.isSome_some, List.getD_cons_zero, List.getD_cons_succ, List.set_cons_zero, List.set_cons_succ, List.length_cons, List.length_nil, Nat.reduceAdd, Nat.reduceSub, Nat.reduceLT, Nat.reduceLeDiff, List.map_cons, List.map_nil, List.replicate, List.cons_append, List.nil_append, List.append_nil, outsOf, wipeE, backE, ownIx, putOuts, Option.toList, It.lk, Es.lk, items_l, items_t, slR_e, sl_t, sl_l, if_true, if_false, Bool.false_eq_true, Bool.true_and, Bool.and_true, Bool.not_true, Bool.not_false, Option.map_some, decide_true, decide_false, q_tup, q_lst, p_add, p_sub, p_mul, p_mod, p_div, p_pow18, p_lt, p_le, p_gt, p_ge, p_eq, p_ne, p_ixL, p_ixT, p_neg, p_lenL, p_lenT, p_int, p_intB, p_abs, p_min, p_max, p_tupL, p_tupT, p_listL, p_listT, p_dic, e_fld, e_prop, e_oeq, so_fld, so_prop, so_oeq, mk_nx, f_nil, f_cons]
      by_cases h2 : (ds.length : Int) ≤ 6
      · simp only [h2, wp_ok, wp_ex, wp_bind, bnd_ok, bnd_ex, bl_bind, boolR_b, cond_t, cond_f, e_cst, e_var, varR_d, someR_s, e_prim, e_sl, e_slv, e_and, e_or, e_one, e_not, e_tru, e_ife, e_chain, e_call, e_lc, e_pop, s_nil, s_cons, o_no, o_yes, intR_i, pt_no, pt_yes, es_nil, es_val, es_vw, a_nil, a_val, a_vw, it_seq, it_rng, it_enum, opd_n, opd_s, t_set, t_unp, t_par, t_setIx, ownR_l, valR_d, t_aug, t_exp, t_app, frzR_s, t_frz, setS_lt, t_ife, t_ret, t_mov, t_retN, t_brk, t_cnt, t_pass, t_rais, t_tr, wp_try, h_nil, h_cons, then_nx, then_rt, then_bk, then_ct, b_nil, b_cons, after_nx, after_ct, after_bk, after_rt, after_no, after_so, fin_qn, fin_qr, so_vw, so_cst, so_var, so_glob, so_prim, so_sl, so_and, so_or, so_not, so_ife, so_one, so_tru, so_chain, so_call, so_lc, so_pop, snap_d, snap_l, Option.isSome_some, List.getD_cons_zero, List.getD_cons_succ, List.set_cons_zero, List.set_cons_succ, List.length_cons, List.length_nil, Nat.reduceAdd, Nat.reduceSub, Nat.reduceLT, Nat.reduceLeDiff, List.map_cons, List.map_nil, List.replicate, List.cons_append, List.nil_append, List.append_nil, outsOf, wipeE, backE, ownIx, putOuts, Option.toList, It.lk, Es.lk, items_l, items_t, slR_e, sl_t, sl_l, if_true, if_false, Bool.false_eq_true, Bool.true_and, Bool.and_true, Bool.not_true, Bool.not_false, Option.map_some, decide_true, decide_false, q_tup, q_lst, p_add, p_sub, p_mul, p_mod, p_div, p_pow18, p_lt, p_le, p_gt, p_ge, p_eq, p_ne, p_ixL, p_ixT, p_neg, p_lenL, p_lenT, p_int, p_intB, p_abs, p_min, p_max, p_tupL, p_tupT, p_listL, p_listT, p_dic, e_fld, e_prop, e_oeq, so_fld, so_prop, so_oeq, mk_nx, f_nil, f_cons]
        refine wp_fo (ds := ds) (fun n env => ∃ w, (ds.take n).all okI = true ∧ env = [none, w]) (env0 := [some (.d (.tup ds)), none]) rfl (by simp only [wp_ok, wp_ex, wp_bind, bnd_ok, bnd_ex, bl_bind, boolR_b, cond_t, cond_f, e_cst, e_var, varR_d, someR_s, e_prim, e_sl, e_slv, e_and, e_or, e_one, e_not, e_tru, e_ife, e_chain, e_call, e_lc, e_pop, s_nil, s_cons, o_no, o_yes, intR_i, pt_no, pt_yes, es_nil, es_val, es_vw, a_nil, a_val, a_vw, it_seq, it_rng, it_enum, opd_n, opd_s, t_set, t_unp, t_par, t_setIx, ownR_l, valR_d, t_aug, t_exp, t_app, frzR_s, t_frz, setS_lt, t_ife, t_ret, t_mov, t_retN, t_brk, t_cnt, t_pass, t_rais, t_tr, wp_try, h_nil, h_cons, then_nx, then_rt, then_bk, then_ct, b_nil, b_cons, after_nx, after_ct, after_bk, after_rt, after_no, after_so, fin_qn, fin_qr, so_vw, so_cst, so_var, so_glob, so_prim, so_sl, so_and, so_or, so_not, so_ife, so_one, so_tru, so_chain, so_call, so_lc, so_pop, snap_d, snap_l, Option.isSome_some, List.getD_cons_zero, List.getD_cons_succ, List.set_cons_zero, List.set_cons_succ, List.length_cons, List.length_nil, Nat.reduceAdd, Nat.reduceSub, Nat.reduceLT, Nat.reduceLeDiff, List.map_cons, List.map_nil, List.replicate, List.cons_append, List.nil_append, List.append_nil, outsOf, wipeE, backE, ownIx, putOuts, Option.toList, It.lk, Es.lk, items_l, items_t, slR_e, sl_t, sl_l, if_true, if_false, Bool.false_eq_true, Bool.true_and, Bool.and_true, Bool.not_true, Bool.not_false, Option.map_some, decide_true, decide_false, q_tup, q_lst, p_add, p_sub, p_mul, p_mod, p_div, p_pow18, p_lt, p_le, p_gt, p_ge, p_eq, p_ne, p_ixL, p_ixT, p_neg, p_lenL, p_lenT, p_int, p_intB, p_abs, p_min, p_max, p_tupL, p_tupT, p_listL, p_listT, p_dic, e_fld, e_prop, e_oeq, so_fld, so_prop, so_oeq, mk_nx, f_nil, f_cons]) ⟨none, rfl, rfl⟩ ?_ ?_
        · rintro env2 ⟨w, ha, rfl⟩
          rw [List.take_length] at ha
          simp only [sum_t (okI_int ha), wp_ok, wp_ex, wp_bind, bnd_ok, bnd_ex, bl_bind, boolR_b, cond_t, cond_f, e_cst, e_var, varR_d, someR_s, e_prim, e_sl, e_slv, e_and, e_or, e_one, e_not, e_tru, e_ife, e_chain, e_call, e_lc, e_pop, s_nil, s_cons, o_no, o_yes, intR_i, pt_no, pt_yes, es_nil, es_val, es_vw, a_nil, a_val, a_vw, it_seq, it_rng, it_enum, opd_n, opd_s, t_set, t_unp, t_par, t_setIx, ownR_l, valR_d, t_aug, t_exp, t_app, frzR_s, t_frz, setS_lt, t_ife, t_ret, t_mov, t_retN, t_brk, t_cnt, t_pass, t_rais, t_tr, wp_try, h_nil, h_cons, then_nx, then_rt, then_bk, then_ct, b_nil, b_cons, after_nx, after_ct, after_bk, after_rt, after_no, after_so, fin_qn, fin_qr, so_vw, so_cst, so_var, so_glob, so_prim, so_sl, so_and, so_or, so_not, so_ife, so_one, so_tru, so_chain, so_call, so_lc, so_pop, snap_d, snap_l, Option.isSome_some, List.getD_cons_zero, List.getD_cons_succ, List.set_cons_zero, List.set_cons_succ, List.length_cons, List.length_nil, Nat.reduceAdd, Nat.reduceSub, Nat.reduceLT, Nat.reduceLeDiff, List.map_cons, List.map_nil, List.replicate, List.cons_append, List.nil_append, List.append_nil, outsOf, wipeE, backE, ownIx, putOuts, Option.toList, It.lk, Es.lk, items_l, items_t, slR_e, sl_t, sl_l, if_true, if_false, Bool.false_eq_true, Bool.true_and, Bool.and_true, Bool.not_true, Bool.not_false, Option.map_some, decide_true, decide_false, q_tup, q_lst, p_add, p_sub, p_mul, p_mod, p_div, p_pow18, p_lt, p_le, p_gt, p_ge, p_eq, p_ne, p_ixL, p_ixT, p_neg, p_lenL, p_lenT, p_int, p_intB, p_abs, p_min, p_max, p_tupL, p_tupT, p_listL, p_listT, p_dic, e_fld, e_prop, e_oeq, so_fld, so_prop, so_oeq, mk_nx, f_nil, f_cons]
          exact ⟨by rw [machB_t, sumI, ha, decide_eq_true h1, decide_eq_true h2]; rfl, by trivial⟩
        · rintro n x env2 hn ⟨w, ha, rfl⟩
          have hm : x ∈ ds := List.mem_of_getElem? hn
          have kx := hx x hm
          have more : okI x = true → (ds.take (n + 1)).all okI = true := fun z => by
            rw [List.take_add_one, hn, List.all_append, ha]
            simp [z]
          have stop : okI x = false → machB (.tup ds) = false := fun z => by
            have : ds.all okI = false := by
              cases q : ds.all okI with
              | false => rfl
              | true => rw [List.all_eq_true.mp q x hm] at z; cases z
            rw [machB_t, this, Bool.and_false, Bool.false_and]
          rw [turn_n _ _ _ _ _ _ (by show 1 < 2; decide)]
          simp only [b__law_is_machine_0, e_globP g_int, e_globP g_bool, i_int kx, i_bool kx, wp_ok, wp_ex, wp_bind, bnd_ok, bnd_ex, bl_bind, boolR_b, cond_t, cond_f, e_cst, e_var, varR_d, someR_s, e_prim, e_sl, e_slv, e_and, e_or, e_one, e_not, e_tru, e_ife, e_chain, e_call, e_lc, e_pop, s_nil, s_cons, o_no, o_yes, intR_i, pt_no, pt_yes, es_nil, es_val, es_vw, a_nil, a_val, a_vw, it_seq, it_rng, it_enum, opd_n, opd_s, t_set, t_unp, t_par, t_setIx, ownR_l, valR_d, t_aug, t_exp, t_app, frzR_s, t_frz, setS_lt, t_ife, t_ret, t_mov, t_retN, t_brk, t_cnt, t_pass, t_rais, t_tr, wp_try, h_nil, h_cons, then_nx, then_rt, then_bk, then_ct, b_nil, b_cons, after_nx, after_ct, after_bk, after_rt, after_no, after_so, fin_qn, fin_qr, so_vw, so_cst, so_var, so_glob, so_prim, so_sl, so_and, so_or, so_not, so_ife, so_one, so_tru, so_chain, so_call, so_lc, so_pop, snap_d, snap_l, Option.isSome_some, List.getD_cons_zero, List.getD_cons_succ, List.set_cons_zero, List.set_cons_succ, List.length_cons, List.length_nil, Nat.reduceAdd, Nat.reduceSub, Nat.reduceLT, Nat.reduceLeDiff, List.map_cons, List.map_nil, List.replicate, List.cons_append, List.nil_append, List.append_nil, outsOf, wipeE, backE, ownIx, putOuts, Option.toList, It.lk, Es.lk, items_l, items_t, slR_e, sl_t, sl_l, if_true, if_false, Bool.false_eq_true, Bool.true_and, Bool.and_true, Bool.not_true, Bool.not_false, Option.map_some, decide_true, decide_false, q_tup, q_lst, p_add, p_sub, p_mul, p_mod, p_div, p_pow18, p_lt, p_le, p_gt, p_ge, p_eq, p_ne, p_ixL, p_ixT, p_neg, p_lenL, p_lenT, p_int, p_intB, p_abs, p_min, p_max, p_tupL, p_tupT, p_listL, p_listT, p_dic, e_fld, e_prop, e_oeq, so_fld, so_prop, so_oeq, mk_nx, f_nil, f_cons]
          cases x with
          | int i =>
            simp only [D.isInt, isBo, Bool.or_false, e_globP g_bool, i_bool (d := .int _) rfl, cmp_le, wp_ok, wp_ex, wp_bind, bnd_ok, bnd_ex, bl_bind, boolR_b, cond_t, cond_f, e_cst, e_var, varR_d, someR_s, e_prim, e_sl, e_slv, e_and, e_or, e_one, e_not, e_tru, e_ife, e_chain, e_call, e_lc, e_pop, s_nil, s_cons, o_no, o_yes, intR_i, pt_no, pt_yes, es_nil, es_val, es_vw, a_nil, a_val, a_vw, it_seq, it_rng, it_enum, opd_n, opd_s, t_set, t_unp, t_par, t_setIx, ownR_l, valR_d, t_aug, t_exp, t_app, frzR_s, t_frz, setS_lt, t_ife, t_ret, t_mov, t_retN, t_brk, t_cnt, t_pass, t_rais, t_tr, wp_try, h_nil, h_cons, then_nx, then_rt, then_bk, then_ct, b_nil, b_cons, after_nx, after_ct, after_bk, after_rt, after_no, after_so, fin_qn, fin_qr, so_vw, so_cst, so_var, so_glob, so_prim, so_sl, so_and, so_or, so_not, so_ife, so_one, so_tru, so_chain, so_call, so_lc, so_pop, snap_d, snap_l, Option.isSome_some, List.getD_cons_zero, List.getD_cons_succ, List.set_cons_zero, List.set_cons_succ, List.length_cons, List.length_nil, Nat.reduceAdd, Nat.reduceSub, Nat.reduceLT, Nat.reduceLeDiff, List.map_cons, List.map_nil, List.replicate, List.cons_append, List.nil_append, List.append_nil, outsOf, wipeE, backE, ownIx, putOuts, Option.toList, It.lk, Es.lk, items_l, items_t, slR_e, sl_t, sl_l, if_true, if_false, Bool.false_eq_true, Bool.true_and, Bool.and_true, Bool.not_true, Bool.not_false, Option.map_some, decide_true, decide_false, q_tup, q_lst, p_add, p_sub, p_mul, p_mod, p_div, p_pow18, p_lt, p_le, p_gt, p_ge, p_eq, p_ne, p_ixL, p_ixT, p_neg, p_lenL, p_lenT, p_int, p_intB, p_abs, p_min, p_max, p_tupL, p_tupT, p_listL, p_listT, p_dic, e_fld, e_prop, e_oeq, so_fld, so_prop, so_oeq, mk_nx, f_nil, f_cons]
            by_cases h3 : 1 ≤ i
            · simp only [h3, cmp_le, wp_ok, wp_ex, wp_bind, bnd_ok, bnd_ex, bl_bind, boolR_b, cond_t, cond_f, e_cst, e_var, varR_d, someR_s, e_prim, e_sl, e_slv, e_and, e_or, e_one, e_not, e_tru, e_ife, e_chain, e_call, e_lc, e_pop, s_nil, s_cons, o_no, o_yes, intR_i, pt_no, pt_yes, es_nil, es_val, es_vw, a_nil, a_val, a_vw, it_seq, it_rng, it_enum, opd_n, opd_s, t_set, t_unp, t_par, t_setIx, ownR_l, valR_d, t_aug, t_exp, t_app, frzR_s, t_frz, setS_lt, t_ife, t_ret, t_mov, t_retN, t_brk, t_cnt, t_pass, t_rais, t_tr, wp_try, h_nil, h_cons, then_nx, then_rt, then_bk, then_ct, b_nil, b_cons, after_nx, after_ct, after_bk, after_rt, after_no, after_so, fin_qn, fin_qr, so_vw, so_cst, so_var, so_glob, so_prim, so_sl, so_and, so_or, so_not, so_ife, so_one, so_tru, so_chain, so_call, so_lc, so_pop, snap_d, snap_l, Option.isSome_some, List.getD_cons_zero, List.getD_cons_succ, List.set_cons_zero, List.set_cons_succ, List.length_cons, List.length_nil, Nat.reduceAdd, Nat.reduceSub, Nat.reduceLT, Nat.reduceLeDiff, List.map_cons, List.map_nil, List.replicate, List.cons_append, List.nil_append, List.append_nil, outsOf, wipeE, backE, ownIx, putOuts, Option.toList, It.lk, Es.lk, items_l, items_t, slR_e, sl_t, sl_l, if_true, if_false, Bool.false_eq_true, Bool.true_and, Bool.and_true, Bool.not_true, Bool.not_false, Option.map_some, decide_true, decide_false, q_tup, q_lst, p_add, p_sub, p_mul, p_mod, p_div, p_pow18, p_lt, p_le, p_gt, p_ge, p_eq, p_ne, p_ixL, p_ixT, p_neg, p_lenL, p_lenT, p_int, p_intB, p_abs, p_min, p_max, p_tupL, p_tupT, p_listL, p_listT, p_dic, e_fld, e_prop, e_oeq, so_fld, so_prop, so_oeq, mk_nx, f_nil, f_cons]
              by_cases h4 : i ≤ 8
              · simp only [h4, wp_ok, wp_ex, wp_bind, bnd_ok, bnd_ex, bl_bind, boolR_b, cond_t, cond_f, e_cst, e_var, varR_d, someR_s, e_prim, e_sl, e_slv, e_and, e_or, e_one, e_not, e_tru, e_ife, e_chain, e_call, e_lc, e_pop, s_nil, s_cons, o_no, o_yes, intR_i, pt_no, pt_yes, es_nil, es_val, es_vw, a_nil, a_val, a_vw, it_seq, it_rng, it_enum, opd_n, opd_s, t_set, t_unp, t_par, t_setIx, ownR_l, valR_d, t_aug, t_exp, t_app, frzR_s, t_frz, setS_lt, t_ife, t_ret, t_mov, t_retN, t_brk, t_cnt, t_pass, t_rais, t_tr, wp_try, h_nil, h_cons, then_nx, then_rt, then_bk, then_ct, b_nil, b_cons, after_nx, after_ct, after_bk, after_rt, after_no, after_so, fin_qn, fin_qr, so_vw, so_cst, so_var, so_glob, so_prim, so_sl, so_and, so_or, so_not, so_ife, so_one, so_tru, so_chain, so_call, so_lc, so_pop, snap_d, snap_l, Option.isSome_some, List.getD_cons_zero, List.getD_cons_succ, List.set_cons_zero, List.set_cons_succ, List.length_cons, List.length_nil, Nat.reduceAdd, Nat.reduceSub, Nat.reduceLT, Nat.reduceLeDiff, List.map_cons, List.map_nil, List.replicate, List.cons_append, List.nil_append, List.append_nil, outsOf, wipeE, backE, ownIx, putOuts, Option.toList, It.lk, Es.lk, items_l, items_t, slR_e, sl_t, sl_l, if_true, if_false, Bool.false_eq_true, Bool.true_and, Bool.and_true, Bool.not_true, Bool.not_false, Option.map_some, decide_true, decide_false, q_tup, q_lst, p_add, p_sub, p_mul, p_mod, p_div, p_pow18, p_lt, p_le, p_gt, p_ge, p_eq, p_ne, p_ixL, p_ixT, p_neg, p_lenL, p_lenT, p_int, p_intB, p_abs, p_min, p_max, p_tupL, p_tupT, p_listL, p_listT, p_dic, e_fld, e_prop, e_oeq, so_fld, so_prop, so_oeq, mk_nx, f_nil, f_cons]
                exact ⟨_, more (by rw [okI_i, decide_eq_true h3, decide_eq_true h4]; rfl), by trivial⟩
              · simp only [h4, wp_ok, wp_ex, wp_bind, bnd_ok, bnd_ex, bl_bind, boolR_b, cond_t, cond_f, e_cst, e_var, varR_d, someR_s, e_prim, e_sl, e_slv, e_and, e_or, e_one, e_not, e_tru, e_ife, e_chain, e_call, e_lc, e_pop, s_nil, s_cons, o_no, o_yes, intR_i, pt_no, pt_yes, es_nil, es_val, es_vw, a_nil, a_val, a_vw, it_seq, it_rng, it_enum, opd_n, opd_s, t_set, t_unp, t_par, t_setIx, ownR_l, valR_d, t_aug, t_exp, t_app, frzR_s, t_frz, setS_lt, t_ife, t_ret, t_mov, t_retN, t_brk, t_cnt, t_pass, t_rais, t_tr, wp_try, h_nil, h_cons, then_nx, then_rt, then_bk, then_ct, b_nil, b_cons, after_nx, after_ct, after_bk, after_rt, after_no, after_so, fin_qn, fin_qr, so_vw, so_cst, so_var, so_glob, so_prim, so_sl, so_and, so_or, so_not, so_ife, so_one, so_tru, so_chain, so_call, so_lc, so_pop, snap_d, snap_l, Option.isSome_some, List.getD_cons_zero, List.getD_cons_succ, List.set_cons_zero, List.set_cons_succ, List.length_cons, List.length_nil, Nat.reduceAdd, Nat.reduceSub, Nat.reduceLT, Nat.reduceLeDiff, List.map_cons, List.map_nil, List.replicate, List.cons_append, List.nil_append, List.append_nil, outsOf, wipeE, backE, ownIx, putOuts, Option.toList, It.lk, Es.lk, items_l, items_t, slR_e, sl_t, sl_l, if_true, if_false, Bool.false_eq_true, Bool.true_and, Bool.and_true, Bool.not_true, Bool.not_false, Option.map_some, decide_true, decide_false, q_tup, q_lst, p_add, p_sub, p_mul, p_mod, p_div, p_pow18, p_lt, p_le, p_gt, p_ge, p_eq, p_ne, p_ixL, p_ixT, p_neg, p_lenL, p_lenT, p_int, p_intB, p_abs, p_min, p_max, p_tupL, p_tupT, p_listL, p_listT, p_dic, e_fld, e_prop, e_oeq, so_fld, so_prop, so_oeq, mk_nx, f_nil, f_cons]
                exact ⟨by rw [stop (by rw [okI_i, decide_eq_false h4, Bool.and_false])], by trivial⟩
            · simp only [h3, wp_ok, wp_ex, wp_bind, bnd_ok, bnd_ex, bl_bind, boolR_b, cond_t, cond_f, e_cst, e_var, varR_d, someR_s, e_prim, e_sl, e_slv, e_and, e_or, e_one, e_not, e_tru, e_ife, e_chain, e_call, e_lc, e_pop, s_nil, s_cons, o_no, o_yes, intR_i, pt_no, pt_yes, es_nil, es_val, es_vw, a_nil, a_val, a_vw, it_seq, it_rng, it_enum, opd_n, opd_s, t_set, t_unp, t_par, t_setIx, ownR_l, valR_d, t_aug, t_exp, t_app, frzR_s, t_frz, setS_lt, t_ife, t_ret, t_mov, t_retN, t_brk, t_cnt, t_pass, t_rais, t_tr, wp_try, h_nil, h_cons, then_nx, then_rt, then_bk, then_ct, b_nil, b_cons, after_nx, after_ct, after_bk, after_rt, after_no, after_so, fin_qn, fin_qr, so_vw, so_cst, so_var, so_glob, so_prim, so_sl, so_and, so_or, so_not, so_ife, so_one, so_tru, so_chain, so_call, so_lc, so_pop, snap_d, snap_l, Option.isSome_some, List.getD_cons_zero, List.getD_cons_succ, List.set_cons_zero, List.set_cons_succ, List.length_cons, List.length_nil, Nat.reduceAdd, Nat.reduceSub, Nat.reduceLT, Nat.reduceLeDiff, List.map_cons, List.map_nil, List.replicate, List.cons_append, List.nil_append, List.append_nil, outsOf, wipeE, backE, ownIx, putOuts, Option.toList, It.lk, Es.lk, items_l, items_t, slR_e, sl_t, sl_l, if_true, if_false, Bool.false_eq_true, Bool.true_and, Bool.and_true, Bool.not_true, Bool.not_false, Option.map_some, decide_true, decide_false, q_tup, q_lst, p_add, p_sub, p_mul, p_mod, p_div, p_pow18, p_lt, p_le, p_gt, p_ge, p_eq, p_ne, p_ixL, p_ixT, p_neg, p_lenL, p_lenT, p_int, p_intB, p_abs, p_min, p_max, p_tupL, p_tupT, p_listL, p_listT, p_dic, e_fld, e_prop, e_oeq, so_fld, so_prop, so_oeq, mk_nx, f_nil, f_cons]
              exact ⟨by rw [stop (by rw [okI_i, decide_eq_false h3, Bool.false_and])], by trivial⟩
          | _ => simp only [D.isInt, isBo, Bool.or_false, Bool.or_true, Bool.or_self, Bool.false_or, e_globP g_bool, i_bool (d := .bl _) rfl, wp_ok, wp_ex, wp_bind, bnd_ok, bnd_ex, bl_bind, boolR_b, cond_t, cond_f, e_cst, e_var, varR_d, someR_s, e_prim, e_sl, e_slv, e_and, e_or, e_one, e_not, e_tru, e_ife, e_chain, e_call, e_lc, e_pop, s_nil, s_cons, o_no, o_yes, intR_i, pt_no, pt_yes, es_nil, es_val, es_vw, a_nil, a_val, a_vw, it_seq, it_rng, it_enum, opd_n, opd_s, t_set, t_unp, t_par, t_setIx, ownR_l, valR_d, t_aug, t_exp, t_app, frzR_s, t_frz, setS_lt, t_ife, t_ret, t_mov, t_retN, t_brk, t_cnt, t_pass, t_rais, t_tr, wp_try, h_nil, h_cons, then_nx, then_rt, then_bk, then_ct, b_nil, b_cons, after_nx, after_ct, after_bk, after_rt, after_no, after_so, fin_qn, fin_qr, so_vw, so_cst, so_var, so_glob, so_prim, so_sl, so_and, so_or, so_not, so_ife, so_one, so_tru, so_chain, so_call, so_lc, so_pop, snap_d, snap_l, Option.isSome_some, List.getD_cons_zero, List.getD_cons_succ, List.set_cons_zero, List.set_cons_succ, List.length_cons, List.length_nil, Nat.reduceAdd, Nat.reduceSub, Nat.reduceLT, Nat.reduceLeDiff, List.map_cons, List.map_nil, List.replicate, List.cons_append, List.nil_append, List.append_nil, outsOf, wipeE, backE, ownIx, putOuts, Option.toList, It.lk, Es.lk, items_l, items_t, slR_e, sl_t, sl_l, if_true, if_false, Bool.false_eq_true, Bool.true_and, Bool.and_true, Bool.not_true, Bool.not_false, Option.map_some, decide_true, decide_false, q_tup, q_lst, p_add, p_sub, p_mul, p_mod, p_div, p_pow18, p_lt, p_le, p_gt, p_ge, p_eq, p_ne, p_ixL, p_ixT, p_neg, p_lenL, p_lenT, p_int, p_intB, p_abs, p_min, p_max, p_tupL, p_tupT, p_listL, p_listT, p_dic, e_fld, e_prop, e_oeq, so_fld, so_prop, so_oeq, mk_nx, f_nil, f_cons]; exact ⟨by rw [stop rfl], by trivial⟩
      · simp only [h2, wp_ok, wp_ex, wp_bind, bnd_ok, bnd_ex, bl_bind, boolR_b, cond_t, cond_f, e_cst, e_var, varR_d, someR_s, e_prim, e_sl, e_slv, e_and, e_or, e_one, e_not, e_tru, e_ife, e_chain, e_call, e_lc, e_pop, s_nil, s_cons, o_no, o_yes, intR_i, pt_no, pt_yes, es_nil, es_val, es_vw, a_nil, a_val, a_vw, it_seq, it_rng, it_enum, opd_n, opd_s, t_set, t_unp, t_par, t_setIx, ownR_l, valR_d, t_aug, t_exp, t_app, frzR_s, t_frz, setS_lt, t_ife, t_ret, t_mov, t_retN, t_brk, t_cnt, t_pass, t_rais, t_tr, wp_try, h_nil, h_cons, then_nx, then_rt, then_bk, then_ct, b_nil, b_cons, after_nx, after_ct, after_bk, after_rt, after_no, after_so, fin_qn, fin_qr, so_vw, so_cst, so_var, so_glob, so_prim, so_sl, so_and, so_or, so_not, so_ife, so_one, so_tru, so_chain, so_call, so_lc, so_pop, snap_d, snap_l, Option.isSome_some, List.getD_cons_zero, List.getD_cons_succ, List.set_cons_zero, List.set_cons_succ, List.length_cons, List.length_nil, Nat.reduceAdd, Nat.reduceSub, Nat.reduceLT, Nat.reduceLeDiff, List.map_cons, List.map_nil, List.replicate, List.cons_append, List.nil_append, List.append_nil, outsOf, wipeE, backE, ownIx, putOuts, Option.toList, It.lk, Es.lk, items_l, items_t, slR_e, sl_t, sl_l, if_true, if_false, Bool.false_eq_true, Bool.true_and, Bool.and_true, Bool.not_true, Bool.not_false, Option.map_some, decide_true, decide_false, q_tup, q_lst, p_add, p_sub, p_mul, p_mod, p_div, p_pow18, p_lt, p_le, p_gt, p_ge, p_eq, p_ne, p_ixL, p_ixT, p_neg, p_lenL, p_lenT, p_int, p_intB, p_abs, p_min, p_max, p_tupL, p_tupT, p_listL, p_listT, p_dic, e_fld, e_prop, e_oeq, so_fld, so_prop, so_oeq, mk_nx, f_nil, f_cons]
        exact ⟨by rw [machB_t, decide_eq_false h2, Bool.and_false, Bool.false_and, Bool.false_and], by trivial⟩
    · simp only [h1, wp_ok, wp_ex, wp_bind, bnd_ok, bnd_ex, bl_bind, boolR_b, cond_t, cond_f, e_cst, e_var, varR_d, someR_s, e_prim, e_sl, e_slv, e_and, e_or, e_one, e_not, e_tru, e_ife, e_chain, e_call, e_lc, e_pop, s_nil, s_cons, o_no, o_yes, intR_i, pt_no, pt_yes, es_nil, es_val, es_vw, a_nil, a_val, a_vw, it_seq, it_rng, it_enum, opd_n, opd_s, t_set, t_unp, t_par, t_setIx, ownR_l, valR_d, t_aug, t_exp, t_app, frzR_s, t_frz, setS_lt, t_ife, t_ret, t_mov, t_retN, t_brk, t_cnt, t_pass, t_rais, t_tr, wp_try, h_nil, h_cons, then_nx, then_rt, then_bk, then_ct, b_nil, b_cons, after_nx, after_ct, after_bk, after_rt, after_no, after_so, fin_qn, fin_qr, so_vw, so_cst, so_var, so_glob, so_prim, so_sl, so_and, so_or, so_not, so_ife, so_one, so_tru, so_chain, so_call, so_lc, so_pop, snap_d, snap_l, Option.isSome_some, List.getD_cons_zero, List.getD_cons_succ, List.set_cons_zero, List.set_cons_succ, List.length_cons, List.length_nil, Nat.reduceAdd, Nat.reduceSub, Nat.reduceLT, Nat.reduceLeDiff, List.map_cons, List.map_nil, List.replicate, List.cons_append, List.nil_append, List.append_nil, outsOf, wipeE, backE, ownIx, putOuts, Option.toList, It.lk, Es.lk, items_l, items_t, slR_e, sl_t, sl_l, if_true, if_false, Bool.false_eq_true, Bool.true_and, Bool.and_true, Bool.not_true, Bool.not_false, Option.map_some, decide_true, decide_false, q_tup, q_lst, p_add, p_sub, p_mul, p_mod, p_div, p_pow18, p_lt, p_le, p_gt, p_ge, p_eq, p_ne, p_ixL, p_ixT, p_neg, p_lenL, p_lenT, p_int, p_intB, p_abs, p_min, p_max, p_tupL, p_tupT, p_listL, p_listT, p_dic, e_fld, e_prop, e_oeq, so_fld, so_prop, so_oeq, mk_nx, f_nil, f_cons]
      exact ⟨by rw [machB_t, decide_eq_false h1, Bool.false_and, Bool.false_and, Bool.false_and], by trivial⟩
  | _ => simp only [isTp, wp_ok, wp_ex, wp_bind, bnd_ok, bnd_ex, bl_bind, boolR_b, cond_t, cond_f, e_cst, e_var, varR_d, someR_s, e_prim, e_sl, e_slv, e_and, e_or, e_one, e_not, e_tru, e_ife, e_chain, e_call, e_lc, e_pop, s_nil, s_cons, o_no, o_yes, intR_i, pt_no, pt_yes, es_nil, es_val, es_vw, a_nil, a_val, a_vw, it_seq, it_rng, it_enum, opd_n, opd_s, t_set, t_unp, t_par, t_setIx, ownR_l, valR_d, t_aug, t_exp, t_app, frzR_s, t_frz, setS_lt, t_ife, t_ret, t_mov, t_retN, t_brk, t_cnt, t_pass, t_rais, t_tr, wp_try, h_nil, h_cons, then_nx, then_rt, then_bk, then_ct, b_nil, b_cons, after_nx, after_ct, after_bk, after_rt, after_no, after_so, fin_qn, fin_qr, so_vw, so_cst, so_var, so_glob, so_prim, so_sl, so_and, so_or, so_not, so_ife, so_one, so_tru, so_chain, so_call, so_lc, so_pop, snap_d, snap_l, Option.isSome_some, List.getD_cons_zero, List.getD_cons_succ, List.set_cons_zero, List.set_cons_succ, List.length_cons, List.length_nil, Nat.reduceAdd, Nat.reduceSub, Nat.reduceLT, Nat.reduceLeDiff, List.map_cons, List.map_nil, List.replicate, List.cons_append, List.nil_append, List.append_nil, outsOf, wipeE, backE, ownIx, putOuts, Option.toList, It.lk, Es.lk, items_l, items_t, slR_e, sl_t, sl_l, if_true, if_false, Bool.false_eq_true, Bool.true_and, Bool.and_true, Bool.not_true, Bool.not_false, Option.map_some, decide_true, decide_false, q_tup, q_lst, p_add, p_sub, p_mul, p_mod, p_div, p_pow18, p_lt, p_le, p_gt, p_ge, p_eq, p_ne, p_ixL, p_ixT, p_neg, p_lenL, p_lenT, p_int, p_intB, p_abs, p_min, p_max, p_tupL, p_tupT, p_listL, p_listT, p_dic, e_fld, e_prop, e_oeq, so_fld, so_prop, so_oeq, mk_nx, f_nil, f_cons]; exact ⟨by trivial, by trivial⟩
end W

set_option maxHeartbeats 8000000
namespace W
open AM PySem
def mach (ds : List D) : D := .obj 2 ["kept_lengths", "size"] [.tup ds, .int (sumI ds)]
theorem machB_tup {d : D} (h : machB d = true) : ∃ ds, d = .tup ds ∧ ds.all okI = true ∧ ds.length ≤ 6 := by
  cases d with
  | tup ds =>
    rw [machB_t] at h
    simp only [Bool.and_eq_true, decide_eq_true_eq] at h
    exact ⟨ds, rfl, h.1.2, by omega⟩
  | _ => cases h
theorem machine_ok (k : Nat) {d : D} {ds : List D} (h : Thing d) (hb : machB d = true) (hd : d = .tup ds) : P.call (k + 4) 2 [.d d] = .ok (.d (mach ds)) [] := by
  subst hd
  obtain ⟨ds2, e, ho, _⟩ := machB_tup hb
  cases e
  apply wp_eq
  refine wp_make (k := k + 2) (fn := c_Machine_init) rfl rfl rfl rfl ?_
  simp only [c_Machine_init, wp_ok, wp_ex, wp_bind, bnd_ok, bnd_ex, bl_bind, boolR_b, cond_t, cond_f, e_cst, e_var, varR_d, someR_s, e_prim, e_sl, e_slv, e_and, e_or, e_one, e_not, e_tru, e_ife, e_chain, e_call, e_lc, e_pop, s_nil, s_cons, o_no, o_yes, intR_i, pt_no, pt_yes, es_nil, es_val, es_vw, a_nil, a_val, a_vw, it_seq, it_rng, it_enum, opd_n, opd_s, t_set, t_unp, t_par, t_setIx, ownR_l, valR_d, t_aug, t_exp, t_app, frzR_s, t_frz, setS_lt, t_ife, t_ret, t_mov, t_retN, t_brk, t_cnt, t_pass, t_rais, t_tr, wp_try, h_nil, h_cons, then_nx, then_rt, then_bk, then_ct, b_nil, b_cons, after_nx, after_ct, after_bk, after_rt, after_no, after_so, fin_qn, fin_qr, so_vw, so_cst, so_var, so_glob, so_prim, so_sl, so_and, so_or, so_not, so_ife, so_one, so_tru, so_chain, so_call, so_lc, so_pop, snap_d, snap_l, Option.isSome_some, List.getD_cons_zero, List.getD_cons_succ, List.set_cons_zero, List.set_cons_succ, List.length_cons, List.length_nil, Nat.reduceAdd, Nat.reduceSub, Nat.reduceLT, Nat.reduceLeDiff, List.map_cons, List.map_nil, List.replicate, List.cons_append, List.nil_append, List.append_nil, outsOf, wipeE, backE, ownIx, putOuts, Option.toList, It.lk, Es.lk, items_l, items_t, slR_e, sl_t, sl_l, if_true, if_false, Bool.false_eq_true, Bool.true_and, Bool.and_true, Bool.not_true, Bool.not_false, Option.map_some, decide_true, decide_false, q_tup, q_lst, p_add, p_sub, p_mul, p_mod, p_div, p_pow18, p_lt, p_le, p_gt, p_ge, p_eq, p_ne, p_ixL, p_ixT, p_neg, p_lenL, p_lenT, p_int, p_intB, p_abs, p_min, p_max, p_tupL, p_tupT, p_listL, p_listT, p_dic, e_fld, e_prop, e_oeq, so_fld, so_prop, so_oeq, mk_nx, f_nil, f_cons]
  refine wp_pure (are_lengths_ok k h) rfl rfl ?_
  simp only [hb, sum_t (okI_int ho), wp_ok, wp_ex, wp_bind, bnd_ok, bnd_ex, bl_bind, boolR_b, cond_t, cond_f, e_cst, e_var, varR_d, someR_s, e_prim, e_sl, e_slv, e_and, e_or, e_one, e_not, e_tru, e_ife, e_chain, e_call, e_lc, e_pop, s_nil, s_cons, o_no, o_yes, intR_i, pt_no, pt_yes, es_nil, es_val, es_vw, a_nil, a_val, a_vw, it_seq, it_rng, it_enum, opd_n, opd_s, t_set, t_unp, t_par, t_setIx, ownR_l, valR_d, t_aug, t_exp, t_app, frzR_s, t_frz, setS_lt, t_ife, t_ret, t_mov, t_retN, t_brk, t_cnt, t_pass, t_rais, t_tr, wp_try, h_nil, h_cons, then_nx, then_rt, then_bk, then_ct, b_nil, b_cons, after_nx, after_ct, after_bk, after_rt, after_no, after_so, fin_qn, fin_qr, so_vw, so_cst, so_var, so_glob, so_prim, so_sl, so_and, so_or, so_not, so_ife, so_one, so_tru, so_chain, so_call, so_lc, so_pop, snap_d, snap_l, Option.isSome_some, List.getD_cons_zero, List.getD_cons_succ, List.set_cons_zero, List.set_cons_succ, List.length_cons, List.length_nil, Nat.reduceAdd, Nat.reduceSub, Nat.reduceLT, Nat.reduceLeDiff, List.map_cons, List.map_nil, List.replicate, List.cons_append, List.nil_append, List.append_nil, outsOf, wipeE, backE, ownIx, putOuts, Option.toList, It.lk, Es.lk, items_l, items_t, slR_e, sl_t, sl_l, if_true, if_false, Bool.false_eq_true, Bool.true_and, Bool.and_true, Bool.not_true, Bool.not_false, Option.map_some, decide_true, decide_false, q_tup, q_lst, p_add, p_sub, p_mul, p_mod, p_div, p_pow18, p_lt, p_le, p_gt, p_ge, p_eq, p_ne, p_ixL, p_ixT, p_neg, p_lenL, p_lenT, p_int, p_intB, p_abs, p_min, p_max, p_tupL, p_tupT, p_listL, p_listT, p_dic, e_fld, e_prop, e_oeq, so_fld, so_prop, so_oeq, mk_nx, f_nil, f_cons]
  exact ⟨rfl, by trivial⟩
theorem machine_no (k : Nat) {d : D} (h : Thing d) (hb : machB d = false) : P.call (k + 4) 2 [.d d] = .ex ⟨1, []⟩ [] := by
  apply wp_eqx
  refine wp_make (k := k + 2) (fn := c_Machine_init) rfl rfl rfl rfl ?_
  simp only [c_Machine_init, wp_ok, wp_ex, wp_bind, bnd_ok, bnd_ex, bl_bind, boolR_b, cond_t, cond_f, e_cst, e_var, varR_d, someR_s, e_prim, e_sl, e_slv, e_and, e_or, e_one, e_not, e_tru, e_ife, e_chain, e_call, e_lc, e_pop, s_nil, s_cons, o_no, o_yes, intR_i, pt_no, pt_yes, es_nil, es_val, es_vw, a_nil, a_val, a_vw, it_seq, it_rng, it_enum, opd_n, opd_s, t_set, t_unp, t_par, t_setIx, ownR_l, valR_d, t_aug, t_exp, t_app, frzR_s, t_frz, setS_lt, t_ife, t_ret, t_mov, t_retN, t_brk, t_cnt, t_pass, t_rais, t_tr, wp_try, h_nil, h_cons, then_nx, then_rt, then_bk, then_ct, b_nil, b_cons, after_nx, after_ct, after_bk, after_rt, after_no, after_so, fin_qn, fin_qr, so_vw, so_cst, so_var, so_glob, so_prim, so_sl, so_and, so_or, so_not, so_ife, so_one, so_tru, so_chain, so_call, so_lc, so_pop, snap_d, snap_l, Option.isSome_some, List.getD_cons_zero, List.getD_cons_succ, List.set_cons_zero, List.set_cons_succ, List.length_cons, List.length_nil, Nat.reduceAdd, Nat.reduceSub, Nat.reduceLT, Nat.reduceLeDiff, List.map_cons, List.map_nil, List.replicate, List.cons_append, List.nil_append, List.append_nil, outsOf, wipeE, backE, ownIx, putOuts, Option.toList, It.lk, Es.lk, items_l, items_t, slR_e, sl_t, sl_l, if_true, if_false, Bool.false_eq_true, Bool.true_and, Bool.and_true, Bool.not_true, Bool.not_false, Option.map_some, decide_true, decide_false, q_tup, q_lst, p_add, p_sub, p_mul, p_mod, p_div, p_pow18, p_lt, p_le, p_gt, p_ge, p_eq, p_ne, p_ixL, p_ixT, p_neg, p_lenL, p_lenT, p_int, p_intB, p_abs, p_min, p_max, p_tupL, p_tupT, p_listL, p_listT, p_dic, e_fld, e_prop, e_oeq, so_fld, so_prop, so_oeq, mk_nx, f_nil, f_cons]
  refine wp_pure (are_lengths_ok k h) rfl rfl ?_
  simp only [hb, wp_ok, wp_ex, wp_bind, bnd_ok, bnd_ex, bl_bind, boolR_b, cond_t, cond_f, e_cst, e_var, varR_d, someR_s, e_prim, e_sl, e_slv, e_and, e_or, e_one, e_not, e_tru, e_ife, e_chain, e_call, e_lc, e_pop, s_nil, s_cons, o_no, o_yes, intR_i, pt_no, pt_yes, es_nil, es_val, es_vw, a_nil, a_val, a_vw, it_seq, it_rng, it_enum, opd_n, opd_s, t_set, t_unp, t_par, t_setIx, ownR_l, valR_d, t_aug, t_exp, t_app, frzR_s, t_frz, setS_lt, t_ife, t_ret, t_mov, t_retN, t_brk, t_cnt, t_pass, t_rais, t_tr, wp_try, h_nil, h_cons, then_nx, then_rt, then_bk, then_ct, b_nil, b_cons, after_nx, after_ct, after_bk, after_rt, after_no, after_so, fin_qn, fin_qr, so_vw, so_cst, so_var, so_glob, so_prim, so_sl, so_and, so_or, so_not, so_ife, so_one, so_tru, so_chain, so_call, so_lc, so_pop, snap_d, snap_l, Option.isSome_some, List.getD_cons_zero, List.getD_cons_succ, List.set_cons_zero, List.set_cons_succ, List.length_cons, List.length_nil, Nat.reduceAdd, Nat.reduceSub, Nat.reduceLT, Nat.reduceLeDiff, List.map_cons, List.map_nil, List.replicate, List.cons_append, List.nil_append, List.append_nil, outsOf, wipeE, backE, ownIx, putOuts, Option.toList, It.lk, Es.lk, items_l, items_t, slR_e, sl_t, sl_l, if_true, if_false, Bool.false_eq_true, Bool.true_and, Bool.and_true, Bool.not_true, Bool.not_false, Option.map_some, decide_true, decide_false, q_tup, q_lst, p_add, p_sub, p_mul, p_mod, p_div, p_pow18, p_lt, p_le, p_gt, p_ge, p_eq, p_ne, p_ixL, p_ixT, p_neg, p_lenL, p_lenT, p_int, p_intB, p_abs, p_min, p_max, p_tupL, p_tupT, p_listL, p_listT, p_dic, e_fld, e_prop, e_oeq, so_fld, so_prop, so_oeq, mk_nx, f_nil, f_cons]
  exact ⟨by trivial, by trivial⟩
theorem told_ok (k : Nat) {d : D} {ds : List D} (h : Thing d) (hb : machB d = true) (hd : d = .tup ds) : P.call (k + 5) 10 [.d d] = .ok (.l [.str "machine", mach ds]) [] := by
  apply wp_eq
  refine wp_def (fn := c__law_told) rfl rfl rfl ?_
  simp only [c__law_told, wp_ok, wp_ex, wp_bind, bnd_ok, bnd_ex, bl_bind, boolR_b, cond_t, cond_f, e_cst, e_var, varR_d, someR_s, e_prim, e_sl, e_slv, e_and, e_or, e_one, e_not, e_tru, e_ife, e_chain, e_call, e_lc, e_pop, s_nil, s_cons, o_no, o_yes, intR_i, pt_no, pt_yes, es_nil, es_val, es_vw, a_nil, a_val, a_vw, it_seq, it_rng, it_enum, opd_n, opd_s, t_set, t_unp, t_par, t_setIx, ownR_l, valR_d, t_aug, t_exp, t_app, frzR_s, t_frz, setS_lt, t_ife, t_ret, t_mov, t_retN, t_brk, t_cnt, t_pass, t_rais, t_tr, wp_try, h_nil, h_cons, then_nx, then_rt, then_bk, then_ct, b_nil, b_cons, after_nx, after_ct, after_bk, after_rt, after_no, after_so, fin_qn, fin_qr, so_vw, so_cst, so_var, so_glob, so_prim, so_sl, so_and, so_or, so_not, so_ife, so_one, so_tru, so_chain, so_call, so_lc, so_pop, snap_d, snap_l, Option.isSome_some, List.getD_cons_zero, List.getD_cons_succ, List.set_cons_zero, List.set_cons_succ, List.length_cons, List.length_nil, Nat.reduceAdd, Nat.reduceSub, Nat.reduceLT, Nat.reduceLeDiff, List.map_cons, List.map_nil, List.replicate, List.cons_append, List.nil_append, List.append_nil, outsOf, wipeE, backE, ownIx, putOuts, Option.toList, It.lk, Es.lk, items_l, items_t, slR_e, sl_t, sl_l, if_true, if_false, Bool.false_eq_true, Bool.true_and, Bool.and_true, Bool.not_true, Bool.not_false, Option.map_some, decide_true, decide_false, q_tup, q_lst, p_add, p_sub, p_mul, p_mod, p_div, p_pow18, p_lt, p_le, p_gt, p_ge, p_eq, p_ne, p_ixL, p_ixT, p_neg, p_lenL, p_lenT, p_int, p_intB, p_abs, p_min, p_max, p_tupL, p_tupT, p_listL, p_listT, p_dic, e_fld, e_prop, e_oeq, so_fld, so_prop, so_oeq, mk_nx, f_nil, f_cons]
  refine wp_pure (machine_ok k h hb hd) rfl rfl ?_
  simp only [wp_ok, wp_ex, wp_bind, bnd_ok, bnd_ex, bl_bind, boolR_b, cond_t, cond_f, e_cst, e_var, varR_d, someR_s, e_prim, e_sl, e_slv, e_and, e_or, e_one, e_not, e_tru, e_ife, e_chain, e_call, e_lc, e_pop, s_nil, s_cons, o_no, o_yes, intR_i, pt_no, pt_yes, es_nil, es_val, es_vw, a_nil, a_val, a_vw, it_seq, it_rng, it_enum, opd_n, opd_s, t_set, t_unp, t_par, t_setIx, ownR_l, valR_d, t_aug, t_exp, t_app, frzR_s, t_frz, setS_lt, t_ife, t_ret, t_mov, t_retN, t_brk, t_cnt, t_pass, t_rais, t_tr, wp_try, h_nil, h_cons, then_nx, then_rt, then_bk, then_ct, b_nil, b_cons, after_nx, after_ct, after_bk, after_rt, after_no, after_so, fin_qn, fin_qr, so_vw, so_cst, so_var, so_glob, so_prim, so_sl, so_and, so_or, so_not, so_ife, so_one, so_tru, so_chain, so_call, so_lc, so_pop, snap_d, snap_l, Option.isSome_some, List.getD_cons_zero, List.getD_cons_succ, List.set_cons_zero, List.set_cons_succ, List.length_cons, List.length_nil, Nat.reduceAdd, Nat.reduceSub, Nat.reduceLT, Nat.reduceLeDiff, List.map_cons, List.map_nil, List.replicate, List.cons_append, List.nil_append, List.append_nil, outsOf, wipeE, backE, ownIx, putOuts, Option.toList, It.lk, Es.lk, items_l, items_t, slR_e, sl_t, sl_l, if_true, if_false, Bool.false_eq_true, Bool.true_and, Bool.and_true, Bool.not_true, Bool.not_false, Option.map_some, decide_true, decide_false, q_tup, q_lst, p_add, p_sub, p_mul, p_mod, p_div, p_pow18, p_lt, p_le, p_gt, p_ge, p_eq, p_ne, p_ixL, p_ixT, p_neg, p_lenL, p_lenT, p_int, p_intB, p_abs, p_min, p_max, p_tupL, p_tupT, p_listL, p_listT, p_dic, e_fld, e_prop, e_oeq, so_fld, so_prop, so_oeq, mk_nx, f_nil, f_cons]
  exact ⟨by trivial, by trivial⟩
theorem told_no (k : Nat) {d : D} (h : Thing d) (hb : machB d = false) : P.call (k + 5) 10 [.d d] = .ok (.l [.str "bad"]) [] := by
  have i11 : P.isa 1 1 = true := rfl
  apply wp_eq
  refine wp_def (fn := c__law_told) rfl rfl rfl ?_
  simp only [c__law_told, wp_ok, wp_ex, wp_bind, bnd_ok, bnd_ex, bl_bind, boolR_b, cond_t, cond_f, e_cst, e_var, varR_d, someR_s, e_prim, e_sl, e_slv, e_and, e_or, e_one, e_not, e_tru, e_ife, e_chain, e_call, e_lc, e_pop, s_nil, s_cons, o_no, o_yes, intR_i, pt_no, pt_yes, es_nil, es_val, es_vw, a_nil, a_val, a_vw, it_seq, it_rng, it_enum, opd_n, opd_s, t_set, t_unp, t_par, t_setIx, ownR_l, valR_d, t_aug, t_exp, t_app, frzR_s, t_frz, setS_lt, t_ife, t_ret, t_mov, t_retN, t_brk, t_cnt, t_pass, t_rais, t_tr, wp_try, h_nil, h_cons, then_nx, then_rt, then_bk, then_ct, b_nil, b_cons, after_nx, after_ct, after_bk, after_rt, after_no, after_so, fin_qn, fin_qr, so_vw, so_cst, so_var, so_glob, so_prim, so_sl, so_and, so_or, so_not, so_ife, so_one, so_tru, so_chain, so_call, so_lc, so_pop, snap_d, snap_l, Option.isSome_some, List.getD_cons_zero, List.getD_cons_succ, List.set_cons_zero, List.set_cons_succ, List.length_cons, List.length_nil, Nat.reduceAdd, Nat.reduceSub, Nat.reduceLT, Nat.reduceLeDiff, List.map_cons, List.map_nil, List.replicate, List.cons_append, List.nil_append, List.append_nil, outsOf, wipeE, backE, ownIx, putOuts, Option.toList, It.lk, Es.lk, items_l, items_t, slR_e, sl_t, sl_l, if_true, if_false, Bool.false_eq_true, Bool.true_and, Bool.and_true, Bool.not_true, Bool.not_false, Option.map_some, decide_true, decide_false, q_tup, q_lst, p_add, p_sub, p_mul, p_mod, p_div, p_pow18, p_lt, p_le, p_gt, p_ge, p_eq, p_ne, p_ixL, p_ixT, p_neg, p_lenL, p_lenT, p_int, p_intB, p_abs, p_min, p_max, p_tupL, p_tupT, p_listL, p_listT, p_dic, e_fld, e_prop, e_oeq, so_fld, so_prop, so_oeq, mk_nx, f_nil, f_cons]
  refine wp_fails (machine_no k h hb) rfl rfl ?_
  simp only [i11, wp_ok, wp_ex, wp_bind, bnd_ok, bnd_ex, bl_bind, boolR_b, cond_t, cond_f, e_cst, e_var, varR_d, someR_s, e_prim, e_sl, e_slv, e_and, e_or, e_one, e_not, e_tru, e_ife, e_chain, e_call, e_lc, e_pop, s_nil, s_cons, o_no, o_yes, intR_i, pt_no, pt_yes, es_nil, es_val, es_vw, a_nil, a_val, a_vw, it_seq, it_rng, it_enum, opd_n, opd_s, t_set, t_unp, t_par, t_setIx, ownR_l, valR_d, t_aug, t_exp, t_app, frzR_s, t_frz, setS_lt, t_ife, t_ret, t_mov, t_retN, t_brk, t_cnt, t_pass, t_rais, t_tr, wp_try, h_nil, h_cons, then_nx, then_rt, then_bk, then_ct, b_nil, b_cons, after_nx, after_ct, after_bk, after_rt, after_no, after_so, fin_qn, fin_qr, so_vw, so_cst, so_var, so_glob, so_prim, so_sl, so_and, so_or, so_not, so_ife, so_one, so_tru, so_chain, so_call, so_lc, so_pop, snap_d, snap_l, Option.isSome_some, List.getD_cons_zero, List.getD_cons_succ, List.set_cons_zero, List.set_cons_succ, List.length_cons, List.length_nil, Nat.reduceAdd, Nat.reduceSub, Nat.reduceLT, Nat.reduceLeDiff, List.map_cons, List.map_nil, List.replicate, List.cons_append, List.nil_append, List.append_nil, outsOf, wipeE, backE, ownIx, putOuts, Option.toList, It.lk, Es.lk, items_l, items_t, slR_e, sl_t, sl_l, if_true, if_false, Bool.false_eq_true, Bool.true_and, Bool.and_true, Bool.not_true, Bool.not_false, Option.map_some, decide_true, decide_false, q_tup, q_lst, p_add, p_sub, p_mul, p_mod, p_div, p_pow18, p_lt, p_le, p_gt, p_ge, p_eq, p_ne, p_ixL, p_ixT, p_neg, p_lenL, p_lenT, p_int, p_intB, p_abs, p_min, p_max, p_tupL, p_tupT, p_listL, p_listT, p_dic, e_fld, e_prop, e_oeq, so_fld, so_prop, so_oeq, mk_nx, f_nil, f_cons]
  exact ⟨by trivial, by trivial⟩
theorem fld_k (ds : List D) : fldF (mach ds) "kept_lengths" = some (.tup ds) := (rfl)
theorem fld_s (ds : List D) : fldF (mach ds) "size" = some (.int (sumI ds)) := (rfl)
theorem belts_ok (k : Nat) (ds : List D) : P.call (k + 2) 3 [.d (mach ds)] = .ok (.d (.tup ds)) [] := by
  apply wp_eq
  refine wp_low (fn := c_Machine_belts) rfl rfl rfl ?_
  simp only [c_Machine_belts, fld_k, wp_ok, wp_ex, wp_bind, bnd_ok, bnd_ex, bl_bind, boolR_b, cond_t, cond_f, e_cst, e_var, varR_d, someR_s, e_prim, e_sl, e_slv, e_and, e_or, e_one, e_not, e_tru, e_ife, e_chain, e_call, e_lc, e_pop, s_nil, s_cons, o_no, o_yes, intR_i, pt_no, pt_yes, es_nil, es_val, es_vw, a_nil, a_val, a_vw, it_seq, it_rng, it_enum, opd_n, opd_s, t_set, t_unp, t_par, t_setIx, ownR_l, valR_d, t_aug, t_exp, t_app, frzR_s, t_frz, setS_lt, t_ife, t_ret, t_mov, t_retN, t_brk, t_cnt, t_pass, t_rais, t_tr, wp_try, h_nil, h_cons, then_nx, then_rt, then_bk, then_ct, b_nil, b_cons, after_nx, after_ct, after_bk, after_rt, after_no, after_so, fin_qn, fin_qr, so_vw, so_cst, so_var, so_glob, so_prim, so_sl, so_and, so_or, so_not, so_ife, so_one, so_tru, so_chain, so_call, so_lc, so_pop, snap_d, snap_l, Option.isSome_some, List.getD_cons_zero, List.getD_cons_succ, List.set_cons_zero, List.set_cons_succ, List.length_cons, List.length_nil, Nat.reduceAdd, Nat.reduceSub, Nat.reduceLT, Nat.reduceLeDiff, List.map_cons, List.map_nil, List.replicate, List.cons_append, List.nil_append, List.append_nil, outsOf, wipeE, backE, ownIx, putOuts, Option.toList, It.lk, Es.lk, items_l, items_t, slR_e, sl_t, sl_l, if_true, if_false, Bool.false_eq_true, Bool.true_and, Bool.and_true, Bool.not_true, Bool.not_false, Option.map_some, decide_true, decide_false, q_tup, q_lst, p_add, p_sub, p_mul, p_mod, p_div, p_pow18, p_lt, p_le, p_gt, p_ge, p_eq, p_ne, p_ixL, p_ixT, p_neg, p_lenL, p_lenT, p_int, p_intB, p_abs, p_min, p_max, p_tupL, p_tupT, p_listL, p_listT, p_dic, e_fld, e_prop, e_oeq, so_fld, so_prop, so_oeq, mk_nx, f_nil, f_cons]
  exact ⟨by trivial, by trivial⟩
theorem is_m (ds : List D) : primF (.bi .isinstance) [mach ds, .cls 2] = some (.d (.bl true)) := (rfl)
theorem is_no {d : D} (h : known d = true) : primF (.bi .isinstance) [d, .cls 2] = some (.d (.bl false)) := by
  cases d <;> first | rfl | (cases h; done)
theorem mach_eq (k : Nat) {a b : List D} {r : Bool} (h : eqF (.tup a) (.tup b) = some r) : P.call (k + 2) 4 [.d (mach a), .d (mach b)] = .ok (.d (.bl r)) [] := by
  apply wp_eq
  refine wp_low (fn := c_Machine_eq) rfl rfl rfl ?_
  simp only [c_Machine_eq, e_globP g_mach, is_m, fld_k, p_eqX, h, wp_ok, wp_ex, wp_bind, bnd_ok, bnd_ex, bl_bind, boolR_b, cond_t, cond_f, e_cst, e_var, varR_d, someR_s, e_prim, e_sl, e_slv, e_and, e_or, e_one, e_not, e_tru, e_ife, e_chain, e_call, e_lc, e_pop, s_nil, s_cons, o_no, o_yes, intR_i, pt_no, pt_yes, es_nil, es_val, es_vw, a_nil, a_val, a_vw, it_seq, it_rng, it_enum, opd_n, opd_s, t_set, t_unp, t_par, t_setIx, ownR_l, valR_d, t_aug, t_exp, t_app, frzR_s, t_frz, setS_lt, t_ife, t_ret, t_mov, t_retN, t_brk, t_cnt, t_pass, t_rais, t_tr, wp_try, h_nil, h_cons, then_nx, then_rt, then_bk, then_ct, b_nil, b_cons, after_nx, after_ct, after_bk, after_rt, after_no, after_so, fin_qn, fin_qr, so_vw, so_cst, so_var, so_glob, so_prim, so_sl, so_and, so_or, so_not, so_ife, so_one, so_tru, so_chain, so_call, so_lc, so_pop, snap_d, snap_l, Option.isSome_some, List.getD_cons_zero, List.getD_cons_succ, List.set_cons_zero, List.set_cons_succ, List.length_cons, List.length_nil, Nat.reduceAdd, Nat.reduceSub, Nat.reduceLT, Nat.reduceLeDiff, List.map_cons, List.map_nil, List.replicate, List.cons_append, List.nil_append, List.append_nil, outsOf, wipeE, backE, ownIx, putOuts, Option.toList, It.lk, Es.lk, items_l, items_t, slR_e, sl_t, sl_l, if_true, if_false, Bool.false_eq_true, Bool.true_and, Bool.and_true, Bool.not_true, Bool.not_false, Option.map_some, decide_true, decide_false, q_tup, q_lst, p_add, p_sub, p_mul, p_mod, p_div, p_pow18, p_lt, p_le, p_gt, p_ge, p_eq, p_ne, p_ixL, p_ixT, p_neg, p_lenL, p_lenT, p_int, p_intB, p_abs, p_min, p_max, p_tupL, p_tupT, p_listL, p_listT, p_dic, e_fld, e_prop, e_oeq, so_fld, so_prop, so_oeq, mk_nx, f_nil, f_cons]
  exact ⟨by trivial, by trivial⟩
theorem mach_ne (k : Nat) {a : List D} {d : D} (h : known d = true) : P.call (k + 2) 4 [.d (mach a), .d d] = .ok (.d (.bl false)) [] := by
  apply wp_eq
  refine wp_low (fn := c_Machine_eq) rfl rfl rfl ?_
  simp only [c_Machine_eq, e_globP g_mach, is_no h, wp_ok, wp_ex, wp_bind, bnd_ok, bnd_ex, bl_bind, boolR_b, cond_t, cond_f, e_cst, e_var, varR_d, someR_s, e_prim, e_sl, e_slv, e_and, e_or, e_one, e_not, e_tru, e_ife, e_chain, e_call, e_lc, e_pop, s_nil, s_cons, o_no, o_yes, intR_i, pt_no, pt_yes, es_nil, es_val, es_vw, a_nil, a_val, a_vw, it_seq, it_rng, it_enum, opd_n, opd_s, t_set, t_unp, t_par, t_setIx, ownR_l, valR_d, t_aug, t_exp, t_app, frzR_s, t_frz, setS_lt, t_ife, t_ret, t_mov, t_retN, t_brk, t_cnt, t_pass, t_rais, t_tr, wp_try, h_nil, h_cons, then_nx, then_rt, then_bk, then_ct, b_nil, b_cons, after_nx, after_ct, after_bk, after_rt, after_no, after_so, fin_qn, fin_qr, so_vw, so_cst, so_var, so_glob, so_prim, so_sl, so_and, so_or, so_not, so_ife, so_one, so_tru, so_chain, so_call, so_lc, so_pop, snap_d, snap_l, Option.isSome_some, List.getD_cons_zero, List.getD_cons_succ, List.set_cons_zero, List.set_cons_succ, List.length_cons, List.length_nil, Nat.reduceAdd, Nat.reduceSub, Nat.reduceLT, Nat.reduceLeDiff, List.map_cons, List.map_nil, List.replicate, List.cons_append, List.nil_append, List.append_nil, outsOf, wipeE, backE, ownIx, putOuts, Option.toList, It.lk, Es.lk, items_l, items_t, slR_e, sl_t, sl_l, if_true, if_false, Bool.false_eq_true, Bool.true_and, Bool.and_true, Bool.not_true, Bool.not_false, Option.map_some, decide_true, decide_false, q_tup, q_lst, p_add, p_sub, p_mul, p_mod, p_div, p_pow18, p_lt, p_le, p_gt, p_ge, p_eq, p_ne, p_ixL, p_ixT, p_neg, p_lenL, p_lenT, p_int, p_intB, p_abs, p_min, p_max, p_tupL, p_tupT, p_listL, p_listT, p_dic, e_fld, e_prop, e_oeq, so_fld, so_prop, so_oeq, mk_nx, f_nil, f_cons]
  exact ⟨by trivial, by trivial⟩
/-- as many Nones as a number says -/
def nons (d : D) : D := .tup (List.replicate d.getInt.toNat .non)
theorem rep_one {α : Type} (x : α) : ∀ n : Nat, (List.replicate n [x]).flatten = List.replicate n x
  | 0 => rfl
  | n + 1 => by rw [List.replicate_succ, List.flatten_cons, rep_one x n, List.replicate_succ]; rfl
theorem mul_non {d : D} (h : okI d = true) : primF (.bin .Mult) [.tup [.non], d] = some (.d (nons d)) := by
  cases d with
  | int i =>
    rw [okI_i, Bool.and_eq_true, decide_eq_true_eq, decide_eq_true_eq] at h
    rw [p_mulT]
    by_cases h2 : 2 ≤ i
    · rw [if_pos ⟨by simp, h2, by omega, by decide⟩, rep_one]
      rfl
    · have : i = 1 := by omega
      subst this
      rw [if_neg (by omega), if_pos rfl]
      rfl
  | _ => cases h
theorem empty_ok (k : Nat) {ds : List D} (h : ds.all okI = true) (hl : ds.length ≤ 6) : P.call (k + 3) 5 [.d (mach ds)] = .ok (.d (.tup (ds.map nons))) [] := by
  apply wp_eq
  refine wp_def (fn := c_empty) rfl rfl rfl ?_
  have e : propK ⟨P.call (k + 2), P.io, P.glob⟩ 2 3 (mach ds) [some (T.d (mach ds)), none] = .ok (.d (.tup ds)) [some (T.d (mach ds)), none] := prop_ok rfl (belts_ok k ds)
  simp only [c_empty, e, wp_ok, wp_ex, wp_bind, bnd_ok, bnd_ex, bl_bind, boolR_b, cond_t, cond_f, e_cst, e_var, varR_d, someR_s, e_prim, e_sl, e_slv, e_and, e_or, e_one, e_not, e_tru, e_ife, e_chain, e_call, e_lc, e_pop, s_nil, s_cons, o_no, o_yes, intR_i, pt_no, pt_yes, es_nil, es_val, es_vw, a_nil, a_val, a_vw, it_seq, it_rng, it_enum, opd_n, opd_s, t_set, t_unp, t_par, t_setIx, ownR_l, valR_d, t_aug, t_exp, t_app, frzR_s, t_frz, setS_lt, t_ife, t_ret, t_mov, t_retN, t_brk, t_cnt, t_pass, t_rais, t_tr, wp_try, h_nil, h_cons, then_nx, then_rt, then_bk, then_ct, b_nil, b_cons, after_nx, after_ct, after_bk, after_rt, after_no, after_so, fin_qn, fin_qr, so_vw, so_cst, so_var, so_glob, so_prim, so_sl, so_and, so_or, so_not, so_ife, so_one, so_tru, so_chain, so_call, so_lc, so_pop, snap_d, snap_l, Option.isSome_some, List.getD_cons_zero, List.getD_cons_succ, List.set_cons_zero, List.set_cons_succ, List.length_cons, List.length_nil, Nat.reduceAdd, Nat.reduceSub, Nat.reduceLT, Nat.reduceLeDiff, List.map_cons, List.map_nil, List.replicate, List.cons_append, List.nil_append, List.append_nil, outsOf, wipeE, backE, ownIx, putOuts, Option.toList, It.lk, Es.lk, items_l, items_t, slR_e, sl_t, sl_l, if_true, if_false, Bool.false_eq_true, Bool.true_and, Bool.and_true, Bool.not_true, Bool.not_false, Option.map_some, decide_true, decide_false, q_tup, q_lst, p_add, p_sub, p_mul, p_mod, p_div, p_pow18, p_lt, p_le, p_gt, p_ge, p_eq, p_ne, p_ixL, p_ixT, p_neg, p_lenL, p_lenT, p_int, p_intB, p_abs, p_min, p_max, p_tupL, p_tupT, p_listL, p_listT, p_dic, e_fld, e_prop, e_oeq, so_fld, so_prop, so_oeq, mk_nx, f_nil, f_cons]
  refine wp_map nons (by omega) ?_ fun x hm => ?_
  · simp only [wp_ok, wp_ex, wp_bind, bnd_ok, bnd_ex, bl_bind, boolR_b, cond_t, cond_f, e_cst, e_var, varR_d, someR_s, e_prim, e_sl, e_slv, e_and, e_or, e_one, e_not, e_tru, e_ife, e_chain, e_call, e_lc, e_pop, s_nil, s_cons, o_no, o_yes, intR_i, pt_no, pt_yes, es_nil, es_val, es_vw, a_nil, a_val, a_vw, it_seq, it_rng, it_enum, opd_n, opd_s, t_set, t_unp, t_par, t_setIx, ownR_l, valR_d, t_aug, t_exp, t_app, frzR_s, t_frz, setS_lt, t_ife, t_ret, t_mov, t_retN, t_brk, t_cnt, t_pass, t_rais, t_tr, wp_try, h_nil, h_cons, then_nx, then_rt, then_bk, then_ct, b_nil, b_cons, after_nx, after_ct, after_bk, after_rt, after_no, after_so, fin_qn, fin_qr, so_vw, so_cst, so_var, so_glob, so_prim, so_sl, so_and, so_or, so_not, so_ife, so_one, so_tru, so_chain, so_call, so_lc, so_pop, snap_d, snap_l, Option.isSome_some, List.getD_cons_zero, List.getD_cons_succ, List.set_cons_zero, List.set_cons_succ, List.length_cons, List.length_nil, Nat.reduceAdd, Nat.reduceSub, Nat.reduceLT, Nat.reduceLeDiff, List.map_cons, List.map_nil, List.replicate, List.cons_append, List.nil_append, List.append_nil, outsOf, wipeE, backE, ownIx, putOuts, Option.toList, It.lk, Es.lk, items_l, items_t, slR_e, sl_t, sl_l, if_true, if_false, Bool.false_eq_true, Bool.true_and, Bool.and_true, Bool.not_true, Bool.not_false, Option.map_some, decide_true, decide_false, q_tup, q_lst, p_add, p_sub, p_mul, p_mod, p_div, p_pow18, p_lt, p_le, p_gt, p_ge, p_eq, p_ne, p_ixL, p_ixT, p_neg, p_lenL, p_lenT, p_int, p_intB, p_abs, p_min, p_max, p_tupL, p_tupT, p_listL, p_listT, p_dic, e_fld, e_prop, e_oeq, so_fld, so_prop, so_oeq, mk_nx, f_nil, f_cons]
    exact ⟨by trivial, by trivial⟩
  · rw [lcT_n _ (by show 1 < 2; decide)]
    simp only [q_tup [D.non] (by decide), mul_non (List.all_eq_true.mp h x hm), wp_ok, wp_ex, wp_bind, bnd_ok, bnd_ex, bl_bind, boolR_b, cond_t, cond_f, e_cst, e_var, varR_d, someR_s, e_prim, e_sl, e_slv, e_and, e_or, e_one, e_not, e_tru, e_ife, e_chain, e_call, e_lc, e_pop, s_nil, s_cons, o_no, o_yes, intR_i, pt_no, pt_yes, es_nil, es_val, es_vw, a_nil, a_val, a_vw, it_seq, it_rng, it_enum, opd_n, opd_s, t_set, t_unp, t_par, t_setIx, ownR_l, valR_d, t_aug, t_exp, t_app, frzR_s, t_frz, setS_lt, t_ife, t_ret, t_mov, t_retN, t_brk, t_cnt, t_pass, t_rais, t_tr, wp_try, h_nil, h_cons, then_nx, then_rt, then_bk, then_ct, b_nil, b_cons, after_nx, after_ct, after_bk, after_rt, after_no, after_so, fin_qn, fin_qr, so_vw, so_cst, so_var, so_glob, so_prim, so_sl, so_and, so_or, so_not, so_ife, so_one, so_tru, so_chain, so_call, so_lc, so_pop, snap_d, snap_l, Option.isSome_some, List.getD_cons_zero, List.getD_cons_succ, List.set_cons_zero, List.set_cons_succ, List.length_cons, List.length_nil, Nat.reduceAdd, Nat.reduceSub, Nat.reduceLT, Nat.reduceLeDiff, List.map_cons, List.map_nil, List.replicate, List.cons_append, List.nil_append, List.append_nil, outsOf, wipeE, backE, ownIx, putOuts, Option.toList, It.lk, Es.lk, items_l, items_t, slR_e, sl_t, sl_l, if_true, if_false, Bool.false_eq_true, Bool.true_and, Bool.and_true, Bool.not_true, Bool.not_false, Option.map_some, decide_true, decide_false, q_tup, q_lst, p_add, p_sub, p_mul, p_mod, p_div, p_pow18, p_lt, p_le, p_gt, p_ge, p_eq, p_ne, p_ixL, p_ixT, p_neg, p_lenL, p_lenT, p_int, p_intB, p_abs, p_min, p_max, p_tupL, p_tupT, p_listL, p_listT, p_dic, e_fld, e_prop, e_oeq, so_fld, so_prop, so_oeq, mk_nx, f_nil, f_cons]
    exact ⟨by trivial, by trivial⟩
theorem law_empty_ok (k : Nat) {ds : List D} (h : ds.all okI = true) (hl : ds.length ≤ 6) : P.call (k + 1) 8 [.d (.tup ds)] = .ok (.d (.tup (ds.map nons))) [] := by
  apply wp_eq
  refine wp_def (fn := c__law_empty) rfl rfl rfl ?_
  simp only [c__law_empty, wp_ok, wp_ex, wp_bind, bnd_ok, bnd_ex, bl_bind, boolR_b, cond_t, cond_f, e_cst, e_var, varR_d, someR_s, e_prim, e_sl, e_slv, e_and, e_or, e_one, e_not, e_tru, e_ife, e_chain, e_call, e_lc, e_pop, s_nil, s_cons, o_no, o_yes, intR_i, pt_no, pt_yes, es_nil, es_val, es_vw, a_nil, a_val, a_vw, it_seq, it_rng, it_enum, opd_n, opd_s, t_set, t_unp, t_par, t_setIx, ownR_l, valR_d, t_aug, t_exp, t_app, frzR_s, t_frz, setS_lt, t_ife, t_ret, t_mov, t_retN, t_brk, t_cnt, t_pass, t_rais, t_tr, wp_try, h_nil, h_cons, then_nx, then_rt, then_bk, then_ct, b_nil, b_cons, after_nx, after_ct, after_bk, after_rt, after_no, after_so, fin_qn, fin_qr, so_vw, so_cst, so_var, so_glob, so_prim, so_sl, so_and, so_or, so_not, so_ife, so_one, so_tru, so_chain, so_call, so_lc, so_pop, snap_d, snap_l, Option.isSome_some, List.getD_cons_zero, List.getD_cons_succ, List.set_cons_zero, List.set_cons_succ, List.length_cons, List.length_nil, Nat.reduceAdd, Nat.reduceSub, Nat.reduceLT, Nat.reduceLeDiff, List.map_cons, List.map_nil, List.replicate, List.cons_append, List.nil_append, List.append_nil, outsOf, wipeE, backE, ownIx, putOuts, Option.toList, It.lk, Es.lk, items_l, items_t, slR_e, sl_t, sl_l, if_true, if_false, Bool.false_eq_true, Bool.true_and, Bool.and_true, Bool.not_true, Bool.not_false, Option.map_some, decide_true, decide_false, q_tup, q_lst, p_add, p_sub, p_mul, p_mod, p_div, p_pow18, p_lt, p_le, p_gt, p_ge, p_eq, p_ne, p_ixL, p_ixT, p_neg, p_lenL, p_lenT, p_int, p_intB, p_abs, p_min, p_max, p_tupL, p_tupT, p_listL, p_listT, p_dic, e_fld, e_prop, e_oeq, so_fld, so_prop, so_oeq, mk_nx, f_nil, f_cons]
  refine wp_map nons (by omega) ?_ fun x hm => ?_
  · simp only [wp_ok, wp_ex, wp_bind, bnd_ok, bnd_ex, bl_bind, boolR_b, cond_t, cond_f, e_cst, e_var, varR_d, someR_s, e_prim, e_sl, e_slv, e_and, e_or, e_one, e_not, e_tru, e_ife, e_chain, e_call, e_lc, e_pop, s_nil, s_cons, o_no, o_yes, intR_i, pt_no, pt_yes, es_nil, es_val, es_vw, a_nil, a_val, a_vw, it_seq, it_rng, it_enum, opd_n, opd_s, t_set, t_unp, t_par, t_setIx, ownR_l, valR_d, t_aug, t_exp, t_app, frzR_s, t_frz, setS_lt, t_ife, t_ret, t_mov, t_retN, t_brk, t_cnt, t_pass, t_rais, t_tr, wp_try, h_nil, h_cons, then_nx, then_rt, then_bk, then_ct, b_nil, b_cons, after_nx, after_ct, after_bk, after_rt, after_no, after_so, fin_qn, fin_qr, so_vw, so_cst, so_var, so_glob, so_prim, so_sl, so_and, so_or, so_not, so_ife, so_one, so_tru, so_chain, so_call, so_lc, so_pop, snap_d, snap_l, Option.isSome_some, List.getD_cons_zero, List.getD_cons_succ, List.set_cons_zero, List.set_cons_succ, List.length_cons, List.length_nil, Nat.reduceAdd, Nat.reduceSub, Nat.reduceLT, Nat.reduceLeDiff, List.map_cons, List.map_nil, List.replicate, List.cons_append, List.nil_append, List.append_nil, outsOf, wipeE, backE, ownIx, putOuts, Option.toList, It.lk, Es.lk, items_l, items_t, slR_e, sl_t, sl_l, if_true, if_false, Bool.false_eq_true, Bool.true_and, Bool.and_true, Bool.not_true, Bool.not_false, Option.map_some, decide_true, decide_false, q_tup, q_lst, p_add, p_sub, p_mul, p_mod, p_div, p_pow18, p_lt, p_le, p_gt, p_ge, p_eq, p_ne, p_ixL, p_ixT, p_neg, p_lenL, p_lenT, p_int, p_intB, p_abs, p_min, p_max, p_tupL, p_tupT, p_listL, p_listT, p_dic, e_fld, e_prop, e_oeq, so_fld, so_prop, so_oeq, mk_nx, f_nil, f_cons]
    exact ⟨by trivial, by trivial⟩
  · have hx := List.all_eq_true.mp h x hm
    cases x with
    | int i =>
      rw [okI_i, Bool.and_eq_true, decide_eq_true_eq, decide_eq_true_eq] at hx
      obtain ⟨j, rfl⟩ : ∃ j : Nat, i = j := ⟨i.toNat, by omega⟩
      rw [lcT_n _ (by show 1 < 3; decide)]
      simp only [rng_to _ (show j ≤ 1000000 by omega), wp_ok, wp_ex, wp_bind, bnd_ok, bnd_ex, bl_bind, boolR_b, cond_t, cond_f, e_cst, e_var, varR_d, someR_s, e_prim, e_sl, e_slv, e_and, e_or, e_one, e_not, e_tru, e_ife, e_chain, e_call, e_lc, e_pop, s_nil, s_cons, o_no, o_yes, intR_i, pt_no, pt_yes, es_nil, es_val, es_vw, a_nil, a_val, a_vw, it_seq, it_rng, it_enum, opd_n, opd_s, t_set, t_unp, t_par, t_setIx, ownR_l, valR_d, t_aug, t_exp, t_app, frzR_s, t_frz, setS_lt, t_ife, t_ret, t_mov, t_retN, t_brk, t_cnt, t_pass, t_rais, t_tr, wp_try, h_nil, h_cons, then_nx, then_rt, then_bk, then_ct, b_nil, b_cons, after_nx, after_ct, after_bk, after_rt, after_no, after_so, fin_qn, fin_qr, so_vw, so_cst, so_var, so_glob, so_prim, so_sl, so_and, so_or, so_not, so_ife, so_one, so_tru, so_chain, so_call, so_lc, so_pop, snap_d, snap_l, Option.isSome_some, List.getD_cons_zero, List.getD_cons_succ, List.set_cons_zero, List.set_cons_succ, List.length_cons, List.length_nil, Nat.reduceAdd, Nat.reduceSub, Nat.reduceLT, Nat.reduceLeDiff, List.map_cons, List.map_nil, List.replicate, List.cons_append, List.nil_append, List.append_nil, outsOf, wipeE, backE, ownIx, putOuts, Option.toList, It.lk, Es.lk, items_l, items_t, slR_e, sl_t, sl_l, if_true, if_false, Bool.false_eq_true, Bool.true_and, Bool.and_true, Bool.not_true, Bool.not_false, Option.map_some, decide_true, decide_false, q_tup, q_lst, p_add, p_sub, p_mul, p_mod, p_div, p_pow18, p_lt, p_le, p_gt, p_ge, p_eq, p_ne, p_ixL, p_ixT, p_neg, p_lenL, p_lenT, p_int, p_intB, p_abs, p_min, p_max, p_tupL, p_tupT, p_listL, p_listT, p_dic, e_fld, e_prop, e_oeq, so_fld, so_prop, so_oeq, mk_nx, f_nil, f_cons]
      refine wp_map (fun _ => .non) (by rw [List.length_map, List.length_range]; omega) ?_ fun x hm => ?_
      · simp only [wp_ok, wp_ex, wp_bind, bnd_ok, bnd_ex, bl_bind, boolR_b, cond_t, cond_f, e_cst, e_var, varR_d, someR_s, e_prim, e_sl, e_slv, e_and, e_or, e_one, e_not, e_tru, e_ife, e_chain, e_call, e_lc, e_pop, s_nil, s_cons, o_no, o_yes, intR_i, pt_no, pt_yes, es_nil, es_val, es_vw, a_nil, a_val, a_vw, it_seq, it_rng, it_enum, opd_n, opd_s, t_set, t_unp, t_par, t_setIx, ownR_l, valR_d, t_aug, t_exp, t_app, frzR_s, t_frz, setS_lt, t_ife, t_ret, t_mov, t_retN, t_brk, t_cnt, t_pass, t_rais, t_tr, wp_try, h_nil, h_cons, then_nx, then_rt, then_bk, then_ct, b_nil, b_cons, after_nx, after_ct, after_bk, after_rt, after_no, after_so, fin_qn, fin_qr, so_vw, so_cst, so_var, so_glob, so_prim, so_sl, so_and, so_or, so_not, so_ife, so_one, so_tru, so_chain, so_call, so_lc, so_pop, snap_d, snap_l, Option.isSome_some, List.getD_cons_zero, List.getD_cons_succ, List.set_cons_zero, List.set_cons_succ, List.length_cons, List.length_nil, Nat.reduceAdd, Nat.reduceSub, Nat.reduceLT, Nat.reduceLeDiff, List.map_cons, List.map_nil, List.replicate, List.cons_append, List.nil_append, List.append_nil, outsOf, wipeE, backE, ownIx, putOuts, Option.toList, It.lk, Es.lk, items_l, items_t, slR_e, sl_t, sl_l, if_true, if_false, Bool.false_eq_true, Bool.true_and, Bool.and_true, Bool.not_true, Bool.not_false, Option.map_some, decide_true, decide_false, q_tup, q_lst, p_add, p_sub, p_mul, p_mod, p_div, p_pow18, p_lt, p_le, p_gt, p_ge, p_eq, p_ne, p_ixL, p_ixT, p_neg, p_lenL, p_lenT, p_int, p_intB, p_abs, p_min, p_max, p_tupL, p_tupT, p_listL, p_listT, p_dic, e_fld, e_prop, e_oeq, so_fld, so_prop, so_oeq, mk_nx, f_nil, f_cons]
        refine ⟨?_, by trivial⟩
        show some (D.tup _) = some (D.tup (List.replicate (Int.toNat (j : Int)) D.non))
        rw [Int.toNat_natCast, List.map_map]
        congr 2
        refine List.eq_replicate_iff.mpr ⟨by rw [List.length_map, List.length_range], fun b hb => ?_⟩
        obtain ⟨_, _, rfl⟩ := List.mem_map.mp hb
        rfl
      · rw [lcT_n _ (by show 2 < 3; decide)]
        simp only [wp_ok, wp_ex, wp_bind, bnd_ok, bnd_ex, bl_bind, boolR_b, cond_t, cond_f, e_cst, e_var, varR_d, someR_s, e_prim, e_sl, e_slv, e_and, e_or, e_one, e_not, e_tru, e_ife, e_chain, e_call, e_lc, e_pop, s_nil, s_cons, o_no, o_yes, intR_i, pt_no, pt_yes, es_nil, es_val, es_vw, a_nil, a_val, a_vw, it_seq, it_rng, it_enum, opd_n, opd_s, t_set, t_unp, t_par, t_setIx, ownR_l, valR_d, t_aug, t_exp, t_app, frzR_s, t_frz, setS_lt, t_ife, t_ret, t_mov, t_retN, t_brk, t_cnt, t_pass, t_rais, t_tr, wp_try, h_nil, h_cons, then_nx, then_rt, then_bk, then_ct, b_nil, b_cons, after_nx, after_ct, after_bk, after_rt, after_no, after_so, fin_qn, fin_qr, so_vw, so_cst, so_var, so_glob, so_prim, so_sl, so_and, so_or, so_not, so_ife, so_one, so_tru, so_chain, so_call, so_lc, so_pop, snap_d, snap_l, Option.isSome_some, List.getD_cons_zero, List.getD_cons_succ, List.set_cons_zero, List.set_cons_succ, List.length_cons, List.length_nil, Nat.reduceAdd, Nat.reduceSub, Nat.reduceLT, Nat.reduceLeDiff, List.map_cons, List.map_nil, List.replicate, List.cons_append, List.nil_append, List.append_nil, outsOf, wipeE, backE, ownIx, putOuts, Option.toList, It.lk, Es.lk, items_l, items_t, slR_e, sl_t, sl_l, if_true, if_false, Bool.false_eq_true, Bool.true_and, Bool.and_true, Bool.not_true, Bool.not_false, Option.map_some, decide_true, decide_false, q_tup, q_lst, p_add, p_sub, p_mul, p_mod, p_div, p_pow18, p_lt, p_le, p_gt, p_ge, p_eq, p_ne, p_ixL, p_ixT, p_neg, p_lenL, p_lenT, p_int, p_intB, p_abs, p_min, p_max, p_tupL, p_tupT, p_listL, p_listT, p_dic, e_fld, e_prop, e_oeq, so_fld, so_prop, so_oeq, mk_nx, f_nil, f_cons]
        exact ⟨by trivial, by trivial⟩
    | _ => cases hx
end W

set_option maxHeartbeats 8000000
namespace W
open AM PySem
theorem draw_call (k : Nat) {ds : List D} {n : Int} (h : Die ds) (hn : 0 < n) (hm : n < 1073741824) : ∃ (r : Nat) (ds' : List D), (r : Int) < n ∧ Die ds' ∧ P.call (k + 1) 7 [.l ds, .d (.int n)] = .ok (.d (.int r)) [some (.l ds')] := by
  obtain ⟨r, ds', a1, a2, a3, e⟩ := draw_ok ⟨P.call k, P.io, P.glob⟩ P.isa h hn hm
  obtain ⟨j, rfl⟩ : ∃ j : Nat, r = j := ⟨r.toNat, by omega⟩
  refine ⟨j, ds', a2, a3, ?_⟩
  rw [call_eq (fn := c__law_draw) rfl]
  exact e
theorem w_draw {k i : Nat} {ds : List D} {n : Int} {env : AM.Env} {Q : T → AM.Env → Prop} {E : X → AM.Env → Prop} (h : Die ds) (hn : 0 < n) (hm : n < 1073741824) (hq : ∀ (r : Nat) (ds' : List D), (r : Int) < n → Die ds' → Q (.d (.int r)) (env.set i (some (.l ds')))) : (callK ⟨P.call (k + 1), P.io, P.glob⟩ 7 [some i, none] [.l ds, .d (.int n)] env).wp Q E := by
  obtain ⟨r, ds', h1, h2, e⟩ := draw_call k h hn hm
  exact wp_chg e rfl rfl (hq r ds' h1 h2)
def big30 : Int := 1000000000000000000000000000000
theorem p_pow30 : primF (.bin .Pow) [.int 10, .int 30] = some (.d (.int big30)) := by
  rw [p_pow, if_pos (by decide)]
  rfl
theorem thing_tup {ds : List D} (h : ∀ x ∈ ds, known x = true) (hl : ds.length ≤ 1000) : Thing (.tup ds) := ⟨rfl, fun ds2 e => by cases e; exact ⟨hl, h⟩⟩
theorem thing_no {d : D} (h : known d = true) (ht : isTp d = false) : Thing d := ⟨h, fun ds e => by subst e; cases ht⟩
theorem odds_ok {x : D} (h : x ∈ [D.bl true, D.non, D.str "2", D.tup [D.int 2], D.int (-1), D.int big30, D.lst [D.int 1], D.bl false]) : Thing x := by
  simp only [List.mem_cons, List.mem_nil_iff, or_false] at h
  rcases h with rfl | rfl | rfl | rfl | rfl | rfl | rfl | rfl
  all_goals first | exact thing_no rfl rfl | exact thing_tup (fun x hx => by rw [List.mem_singleton.mp hx]; rfl) (by decide)
theorem int_fact {ns : List Int} {x : D} (h : x ∈ ns.map D.int) : known x = true := by
  obtain ⟨i, _, rfl⟩ := List.mem_map.mp h
  rfl
theorem w_thing {k i : Nat} {ds : List D} {env : AM.Env} {Q : T → AM.Env → Prop} {E : X → AM.Env → Prop} (h : Die ds) (hq : ∀ (d : D) (ds' : List D), Thing d → Die ds' → Q (.d d) (env.set i (some (.l ds')))) :
    (callK ⟨P.call (k + 2), P.io, P.glob⟩ 11 [some i] [.l ds] env).wp Q E := by
  refine wp_run (fn := c__law_thing) rfl rfl rfl rfl ?_
  simp only [c__law_thing, wp_ok, wp_ex, wp_bind, bnd_ok, bnd_ex, bl_bind, boolR_b, cond_t, cond_f, e_cst, e_var, varR_d, someR_s, e_prim, e_sl, e_slv, e_and, e_or, e_one, e_not, e_tru, e_ife, e_chain, e_call, e_lc, e_pop, s_nil, s_cons, o_no, o_yes, intR_i, pt_no, pt_yes, es_nil, es_val, es_vw, a_nil, a_val, a_vw, it_seq, it_rng, it_enum, opd_n, opd_s, t_set, t_unp, t_par, t_setIx, ownR_l, valR_d, t_aug, t_exp, t_app, frzR_s, t_frz, setS_lt, t_ife, t_ret, t_mov, t_retN, t_brk, t_cnt, t_pass, t_rais, t_tr, wp_try, h_nil, h_cons, then_nx, then_rt, then_bk, then_ct, b_nil, b_cons, after_nx, after_ct, after_bk, after_rt, after_no, after_so, fin_qn, fin_qr, so_vw, so_cst, so_var, so_glob, so_prim, so_sl, so_and, so_or, so_not, so_ife, so_one, so_tru, so_chain, so_call, so_lc, so_pop, snap_d, snap_l, Option.isSome_some, List.getD_cons_zero, List.getD_cons_succ, List.set_cons_zero, List.set_cons_succ, List.length_cons, List.length_nil, Nat.reduceAdd, Nat.reduceSub, Nat.reduceLT, Nat.reduceLeDiff, List.map_cons, List.map_nil, List.replicate, List.cons_append, List.nil_append, List.append_nil, outsOf, wipeE, backE, ownIx, putOuts, Option.toList, It.lk, Es.lk, items_l, items_t, slR_e, sl_t, sl_l, if_true, if_false, Bool.false_eq_true, Bool.true_and, Bool.and_true, Bool.not_true, Bool.not_false, Option.map_some, decide_true, decide_false, q_tup, q_lst, p_add, p_sub, p_mul, p_mod, p_div, p_pow18, p_lt, p_le, p_gt, p_ge, p_eq, p_ne, p_ixL, p_ixT, p_neg, p_lenL, p_lenT, p_int, p_intB, p_abs, p_min, p_max, p_tupL, p_tupT, p_listL, p_listT, p_dic, e_fld, e_prop, e_oeq, so_fld, so_prop, so_oeq, mk_nx, f_nil, f_cons]
  refine w_draw (n := 9) h (by decide) (by decide) fun many d1 hm h1 => ?_
  simp only [q_lst [D.int 2, D.int 3, D.int 4, D.int 10] (by decide), wp_ok, wp_ex, wp_bind, bnd_ok, bnd_ex, bl_bind, boolR_b, cond_t, cond_f, e_cst, e_var, varR_d, someR_s, e_prim, e_sl, e_slv, e_and, e_or, e_one, e_not, e_tru, e_ife, e_chain, e_call, e_lc, e_pop, s_nil, s_cons, o_no, o_yes, intR_i, pt_no, pt_yes, es_nil, es_val, es_vw, a_nil, a_val, a_vw, it_seq, it_rng, it_enum, opd_n, opd_s, t_set, t_unp, t_par, t_setIx, ownR_l, valR_d, t_aug, t_exp, t_app, frzR_s, t_frz, setS_lt, t_ife, t_ret, t_mov, t_retN, t_brk, t_cnt, t_pass, t_rais, t_tr, wp_try, h_nil, h_cons, then_nx, then_rt, then_bk, then_ct, b_nil, b_cons, after_nx, after_ct, after_bk, after_rt, after_no, after_so, fin_qn, fin_qr, so_vw, so_cst, so_var, so_glob, so_prim, so_sl, so_and, so_or, so_not, so_ife, so_one, so_tru, so_chain, so_call, so_lc, so_pop, snap_d, snap_l, Option.isSome_some, List.getD_cons_zero, List.getD_cons_succ, List.set_cons_zero, List.set_cons_succ, List.length_cons, List.length_nil, Nat.reduceAdd, Nat.reduceSub, Nat.reduceLT, Nat.reduceLeDiff, List.map_cons, List.map_nil, List.replicate, List.cons_append, List.nil_append, List.append_nil, outsOf, wipeE, backE, ownIx, putOuts, Option.toList, It.lk, Es.lk, items_l, items_t, slR_e, sl_t, sl_l, if_true, if_false, Bool.false_eq_true, Bool.true_and, Bool.and_true, Bool.not_true, Bool.not_false, Option.map_some, decide_true, decide_false, q_tup, q_lst, p_add, p_sub, p_mul, p_mod, p_div, p_pow18, p_lt, p_le, p_gt, p_ge, p_eq, p_ne, p_ixL, p_ixT, p_neg, p_lenL, p_lenT, p_int, p_intB, p_abs, p_min, p_max, p_tupL, p_tupT, p_listL, p_listT, p_dic, e_fld, e_prop, e_oeq, so_fld, so_prop, so_oeq, mk_nx, f_nil, f_cons]
  refine w_draw (n := 4) h1 (by decide) (by decide) fun r d2 hr h2 => ?_
  simp only [wp_ok, wp_ex, wp_bind, bnd_ok, bnd_ex, bl_bind, boolR_b, cond_t, cond_f, e_cst, e_var, varR_d, someR_s, e_prim, e_sl, e_slv, e_and, e_or, e_one, e_not, e_tru, e_ife, e_chain, e_call, e_lc, e_pop, s_nil, s_cons, o_no, o_yes, intR_i, pt_no, pt_yes, es_nil, es_val, es_vw, a_nil, a_val, a_vw, it_seq, it_rng, it_enum, opd_n, opd_s, t_set, t_unp, t_par, t_setIx, ownR_l, valR_d, t_aug, t_exp, t_app, frzR_s, t_frz, setS_lt, t_ife, t_ret, t_mov, t_retN, t_brk, t_cnt, t_pass, t_rais, t_tr, wp_try, h_nil, h_cons, then_nx, then_rt, then_bk, then_ct, b_nil, b_cons, after_nx, after_ct, after_bk, after_rt, after_no, after_so, fin_qn, fin_qr, so_vw, so_cst, so_var, so_glob, so_prim, so_sl, so_and, so_or, so_not, so_ife, so_one, so_tru, so_chain, so_call, so_lc, so_pop, snap_d, snap_l, Option.isSome_some, List.getD_cons_zero, List.getD_cons_succ, List.set_cons_zero, List.set_cons_succ, List.length_cons, List.length_nil, Nat.reduceAdd, Nat.reduceSub, Nat.reduceLT, Nat.reduceLeDiff, List.map_cons, List.map_nil, List.replicate, List.cons_append, List.nil_append, List.append_nil, outsOf, wipeE, backE, ownIx, putOuts, Option.toList, It.lk, Es.lk, items_l, items_t, slR_e, sl_t, sl_l, if_true, if_false, Bool.false_eq_true, Bool.true_and, Bool.and_true, Bool.not_true, Bool.not_false, Option.map_some, decide_true, decide_false, q_tup, q_lst, p_add, p_sub, p_mul, p_mod, p_div, p_pow18, p_lt, p_le, p_gt, p_ge, p_eq, p_ne, p_ixL, p_ixT, p_neg, p_lenL, p_lenT, p_int, p_intB, p_abs, p_min, p_max, p_tupL, p_tupT, p_listL, p_listT, p_dic, e_fld, e_prop, e_oeq, so_fld, so_prop, so_oeq, mk_nx, f_nil, f_cons]
  refine wp_ix (fun x => ∃ j : Nat, x = .int j ∧ 0 < j ∧ j ≤ 10) (fun x hx => ?_) hr fun x hx => ?_
  · simp only [List.mem_cons, List.mem_nil_iff, or_false] at hx
    rcases hx with rfl | rfl | rfl | rfl
    · exact ⟨2, rfl, by decide, by decide⟩
    · exact ⟨3, rfl, by decide, by decide⟩
    · exact ⟨4, rfl, by decide, by decide⟩
    · exact ⟨10, rfl, by decide, by decide⟩
  obtain ⟨high, rfl, hh, hh2⟩ := hx
  simp only [rng_to _ (show many ≤ 1000000 by omega), wp_ok, wp_ex, wp_bind, bnd_ok, bnd_ex, bl_bind, boolR_b, cond_t, cond_f, e_cst, e_var, varR_d, someR_s, e_prim, e_sl, e_slv, e_and, e_or, e_one, e_not, e_tru, e_ife, e_chain, e_call, e_lc, e_pop, s_nil, s_cons, o_no, o_yes, intR_i, pt_no, pt_yes, es_nil, es_val, es_vw, a_nil, a_val, a_vw, it_seq, it_rng, it_enum, opd_n, opd_s, t_set, t_unp, t_par, t_setIx, ownR_l, valR_d, t_aug, t_exp, t_app, frzR_s, t_frz, setS_lt, t_ife, t_ret, t_mov, t_retN, t_brk, t_cnt, t_pass, t_rais, t_tr, wp_try, h_nil, h_cons, then_nx, then_rt, then_bk, then_ct, b_nil, b_cons, after_nx, after_ct, after_bk, after_rt, after_no, after_so, fin_qn, fin_qr, so_vw, so_cst, so_var, so_glob, so_prim, so_sl, so_and, so_or, so_not, so_ife, so_one, so_tru, so_chain, so_call, so_lc, so_pop, snap_d, snap_l, Option.isSome_some, List.getD_cons_zero, List.getD_cons_succ, List.set_cons_zero, List.set_cons_succ, List.length_cons, List.length_nil, Nat.reduceAdd, Nat.reduceSub, Nat.reduceLT, Nat.reduceLeDiff, List.map_cons, List.map_nil, List.replicate, List.cons_append, List.nil_append, List.append_nil, outsOf, wipeE, backE, ownIx, putOuts, Option.toList, It.lk, Es.lk, items_l, items_t, slR_e, sl_t, sl_l, if_true, if_false, Bool.false_eq_true, Bool.true_and, Bool.and_true, Bool.not_true, Bool.not_false, Option.map_some, decide_true, decide_false, q_tup, q_lst, p_add, p_sub, p_mul, p_mod, p_div, p_pow18, p_lt, p_le, p_gt, p_ge, p_eq, p_ne, p_ixL, p_ixT, p_neg, p_lenL, p_lenT, p_int, p_intB, p_abs, p_min, p_max, p_tupL, p_tupT, p_listL, p_listT, p_dic, e_fld, e_prop, e_oeq, so_fld, so_prop, so_oeq, mk_nx, f_nil, f_cons]
  refine wp_lc (fun n acc env => ∃ (d3 : List D) (ns : List Int), Die d3 ∧ acc = ns.map .int ∧ ns.length = n ∧ env = [some (.l d3), some (.d (.int many)), some (.d (.int high)), none, none, none, none, none, none]) ⟨d2, [], h2, rfl, rfl, rfl⟩ ?_ ?_
  · rintro out env2 ⟨d3, ns, h3, rfl, hl, rfl⟩
    rw [List.length_map, List.length_range] at hl
    simp only [wp_ok, wp_ex, wp_bind, bnd_ok, bnd_ex, bl_bind, boolR_b, cond_t, cond_f, e_cst, e_var, varR_d, someR_s, e_prim, e_sl, e_slv, e_and, e_or, e_one, e_not, e_tru, e_ife, e_chain, e_call, e_lc, e_pop, s_nil, s_cons, o_no, o_yes, intR_i, pt_no, pt_yes, es_nil, es_val, es_vw, a_nil, a_val, a_vw, it_seq, it_rng, it_enum, opd_n, opd_s, t_set, t_unp, t_par, t_setIx, ownR_l, valR_d, t_aug, t_exp, t_app, frzR_s, t_frz, setS_lt, t_ife, t_ret, t_mov, t_retN, t_brk, t_cnt, t_pass, t_rais, t_tr, wp_try, h_nil, h_cons, then_nx, then_rt, then_bk, then_ct, b_nil, b_cons, after_nx, after_ct, after_bk, after_rt, after_no, after_so, fin_qn, fin_qr, so_vw, so_cst, so_var, so_glob, so_prim, so_sl, so_and, so_or, so_not, so_ife, so_one, so_tru, so_chain, so_call, so_lc, so_pop, snap_d, snap_l, Option.isSome_some, List.getD_cons_zero, List.getD_cons_succ, List.set_cons_zero, List.set_cons_succ, List.length_cons, List.length_nil, Nat.reduceAdd, Nat.reduceSub, Nat.reduceLT, Nat.reduceLeDiff, List.map_cons, List.map_nil, List.replicate, List.cons_append, List.nil_append, List.append_nil, outsOf, wipeE, backE, ownIx, putOuts, Option.toList, It.lk, Es.lk, items_l, items_t, slR_e, sl_t, sl_l, if_true, if_false, Bool.false_eq_true, Bool.true_and, Bool.and_true, Bool.not_true, Bool.not_false, Option.map_some, decide_true, decide_false, q_tup, q_lst, p_add, p_sub, p_mul, p_mod, p_div, p_pow18, p_lt, p_le, p_gt, p_ge, p_eq, p_ne, p_ixL, p_ixT, p_neg, p_lenL, p_lenT, p_int, p_intB, p_abs, p_min, p_max, p_tupL, p_tupT, p_listL, p_listT, p_dic, e_fld, e_prop, e_oeq, so_fld, so_prop, so_oeq, mk_nx, f_nil, f_cons]
    refine w_draw (n := 8) h3 (by decide) (by decide) fun kind d4 hk h4 => ?_
    simp only [wp_ok, wp_ex, wp_bind, bnd_ok, bnd_ex, bl_bind, boolR_b, cond_t, cond_f, e_cst, e_var, varR_d, someR_s, e_prim, e_sl, e_slv, e_and, e_or, e_one, e_not, e_tru, e_ife, e_chain, e_call, e_lc, e_pop, s_nil, s_cons, o_no, o_yes, intR_i, pt_no, pt_yes, es_nil, es_val, es_vw, a_nil, a_val, a_vw, it_seq, it_rng, it_enum, opd_n, opd_s, t_set, t_unp, t_par, t_setIx, ownR_l, valR_d, t_aug, t_exp, t_app, frzR_s, t_frz, setS_lt, t_ife, t_ret, t_mov, t_retN, t_brk, t_cnt, t_pass, t_rais, t_tr, wp_try, h_nil, h_cons, then_nx, then_rt, then_bk, then_ct, b_nil, b_cons, after_nx, after_ct, after_bk, after_rt, after_no, after_so, fin_qn, fin_qr, so_vw, so_cst, so_var, so_glob, so_prim, so_sl, so_and, so_or, so_not, so_ife, so_one, so_tru, so_chain, so_call, so_lc, so_pop, snap_d, snap_l, Option.isSome_some, List.getD_cons_zero, List.getD_cons_succ, List.set_cons_zero, List.set_cons_succ, List.length_cons, List.length_nil, Nat.reduceAdd, Nat.reduceSub, Nat.reduceLT, Nat.reduceLeDiff, List.map_cons, List.map_nil, List.replicate, List.cons_append, List.nil_append, List.append_nil, outsOf, wipeE, backE, ownIx, putOuts, Option.toList, It.lk, Es.lk, items_l, items_t, slR_e, sl_t, sl_l, if_true, if_false, Bool.false_eq_true, Bool.true_and, Bool.and_true, Bool.not_true, Bool.not_false, Option.map_some, decide_true, decide_false, q_tup, q_lst, p_add, p_sub, p_mul, p_mod, p_div, p_pow18, p_lt, p_le, p_gt, p_ge, p_eq, p_ne, p_ixL, p_ixT, p_neg, p_lenL, p_lenT, p_int, p_intB, p_abs, p_min, p_max, p_tupL, p_tupT, p_listL, p_listT, p_dic, e_fld, e_prop, e_oeq, so_fld, so_prop, so_oeq, mk_nx, f_nil, f_cons]
    refine w_draw (n := (many : Int) + 1) h4 (by omega) (by omega) fun spot d5 hs h5 => ?_
    simp only [q_tup [D.int 2] (by decide), q_lst [D.int 1] (by decide), p_pow30, wp_ok, wp_ex, wp_bind, bnd_ok, bnd_ex, bl_bind, boolR_b, cond_t, cond_f, e_cst, e_var, varR_d, someR_s, e_prim, e_sl, e_slv, e_and, e_or, e_one, e_not, e_tru, e_ife, e_chain, e_call, e_lc, e_pop, s_nil, s_cons, o_no, o_yes, intR_i, pt_no, pt_yes, es_nil, es_val, es_vw, a_nil, a_val, a_vw, it_seq, it_rng, it_enum, opd_n, opd_s, t_set, t_unp, t_par, t_setIx, ownR_l, valR_d, t_aug, t_exp, t_app, frzR_s, t_frz, setS_lt, t_ife, t_ret, t_mov, t_retN, t_brk, t_cnt, t_pass, t_rais, t_tr, wp_try, h_nil, h_cons, then_nx, then_rt, then_bk, then_ct, b_nil, b_cons, after_nx, after_ct, after_bk, after_rt, after_no, after_so, fin_qn, fin_qr, so_vw, so_cst, so_var, so_glob, so_prim, so_sl, so_and, so_or, so_not, so_ife, so_one, so_tru, so_chain, so_call, so_lc, so_pop, snap_d, snap_l, Option.isSome_some, List.getD_cons_zero, List.getD_cons_succ, List.set_cons_zero, List.set_cons_succ, List.length_cons, List.length_nil, Nat.reduceAdd, Nat.reduceSub, Nat.reduceLT, Nat.reduceLeDiff, List.map_cons, List.map_nil, List.replicate, List.cons_append, List.nil_append, List.append_nil, outsOf, wipeE, backE, ownIx, putOuts, Option.toList, It.lk, Es.lk, items_l, items_t, slR_e, sl_t, sl_l, if_true, if_false, Bool.false_eq_true, Bool.true_and, Bool.and_true, Bool.not_true, Bool.not_false, Option.map_some, decide_true, decide_false, q_tup, q_lst, p_add, p_sub, p_mul, p_mod, p_div, p_pow18, p_lt, p_le, p_gt, p_ge, p_eq, p_ne, p_ixL, p_ixT, p_neg, p_lenL, p_lenT, p_int, p_intB, p_abs, p_min, p_max, p_tupL, p_tupT, p_listL, p_listT, p_dic, e_fld, e_prop, e_oeq, so_fld, so_prop, so_oeq, mk_nx, f_nil, f_cons]
    refine w_draw (n := 8) h5 (by decide) (by decide) fun r2 d6 hr2 h6 => ?_
    simp only [wp_ok, wp_ex, wp_bind, bnd_ok, bnd_ex, bl_bind, boolR_b, cond_t, cond_f, e_cst, e_var, varR_d, someR_s, e_prim, e_sl, e_slv, e_and, e_or, e_one, e_not, e_tru, e_ife, e_chain, e_call, e_lc, e_pop, s_nil, s_cons, o_no, o_yes, intR_i, pt_no, pt_yes, es_nil, es_val, es_vw, a_nil, a_val, a_vw, it_seq, it_rng, it_enum, opd_n, opd_s, t_set, t_unp, t_par, t_setIx, ownR_l, valR_d, t_aug, t_exp, t_app, frzR_s, t_frz, setS_lt, t_ife, t_ret, t_mov, t_retN, t_brk, t_cnt, t_pass, t_rais, t_tr, wp_try, h_nil, h_cons, then_nx, then_rt, then_bk, then_ct, b_nil, b_cons, after_nx, after_ct, after_bk, after_rt, after_no, after_so, fin_qn, fin_qr, so_vw, so_cst, so_var, so_glob, so_prim, so_sl, so_and, so_or, so_not, so_ife, so_one, so_tru, so_chain, so_call, so_lc, so_pop, snap_d, snap_l, Option.isSome_some, List.getD_cons_zero, List.getD_cons_succ, List.set_cons_zero, List.set_cons_succ, List.length_cons, List.length_nil, Nat.reduceAdd, Nat.reduceSub, Nat.reduceLT, Nat.reduceLeDiff, List.map_cons, List.map_nil, List.replicate, List.cons_append, List.nil_append, List.append_nil, outsOf, wipeE, backE, ownIx, putOuts, Option.toList, It.lk, Es.lk, items_l, items_t, slR_e, sl_t, sl_l, if_true, if_false, Bool.false_eq_true, Bool.true_and, Bool.and_true, Bool.not_true, Bool.not_false, Option.map_some, decide_true, decide_false, q_tup, q_lst, p_add, p_sub, p_mul, p_mod, p_div, p_pow18, p_lt, p_le, p_gt, p_ge, p_eq, p_ne, p_ixL, p_ixT, p_neg, p_lenL, p_lenT, p_int, p_intB, p_abs, p_min, p_max, p_tupL, p_tupT, p_listL, p_listT, p_dic, e_fld, e_prop, e_oeq, so_fld, so_prop, so_oeq, mk_nx, f_nil, f_cons]
    refine wp_ix Thing (fun x hx => odds_ok hx) hr2 fun odd ho => ?_
    simp only [wp_ok, wp_ex, wp_bind, bnd_ok, bnd_ex, bl_bind, boolR_b, cond_t, cond_f, e_cst, e_var, varR_d, someR_s, e_prim, e_sl, e_slv, e_and, e_or, e_one, e_not, e_tru, e_ife, e_chain, e_call, e_lc, e_pop, s_nil, s_cons, o_no, o_yes, intR_i, pt_no, pt_yes, es_nil, es_val, es_vw, a_nil, a_val, a_vw, it_seq, it_rng, it_enum, opd_n, opd_s, t_set, t_unp, t_par, t_setIx, ownR_l, valR_d, t_aug, t_exp, t_app, frzR_s, t_frz, setS_lt, t_ife, t_ret, t_mov, t_retN, t_brk, t_cnt, t_pass, t_rais, t_tr, wp_try, h_nil, h_cons, then_nx, then_rt, then_bk, then_ct, b_nil, b_cons, after_nx, after_ct, after_bk, after_rt, after_no, after_so, fin_qn, fin_qr, so_vw, so_cst, so_var, so_glob, so_prim, so_sl, so_and, so_or, so_not, so_ife, so_one, so_tru, so_chain, so_call, so_lc, so_pop, snap_d, snap_l, Option.isSome_some, List.getD_cons_zero, List.getD_cons_succ, List.set_cons_zero, List.set_cons_succ, List.length_cons, List.length_nil, Nat.reduceAdd, Nat.reduceSub, Nat.reduceLT, Nat.reduceLeDiff, List.map_cons, List.map_nil, List.replicate, List.cons_append, List.nil_append, List.append_nil, outsOf, wipeE, backE, ownIx, putOuts, Option.toList, It.lk, Es.lk, items_l, items_t, slR_e, sl_t, sl_l, if_true, if_false, Bool.false_eq_true, Bool.true_and, Bool.and_true, Bool.not_true, Bool.not_false, Option.map_some, decide_true, decide_false, q_tup, q_lst, p_add, p_sub, p_mul, p_mod, p_div, p_pow18, p_lt, p_le, p_gt, p_ge, p_eq, p_ne, p_ixL, p_ixT, p_neg, p_lenL, p_lenT, p_int, p_intB, p_abs, p_min, p_max, p_tupL, p_tupT, p_listL, p_listT, p_dic, e_fld, e_prop, e_oeq, so_fld, so_prop, so_oeq, mk_nx, f_nil, f_cons]
    have c1 : cutG (ns.map D.int) none (some (spot : Int)) = (ns.map D.int).take spot := cut_to (by rw [List.length_map]; omega)
    have c2 : cutG (ns.map D.int) (some (spot : Int)) none = (ns.map D.int).drop spot := cut_from (by rw [List.length_map]; omega)
    refine wp_cnd (fun _ => ?_) fun _ => ?_
    · simp only [c1, c2, q_tup [odd] (by simp), q_addT ((ns.map D.int).take spot) [odd] (by rw [List.length_take, List.length_map]; simp; omega), q_addT ((ns.map D.int).take spot ++ [odd]) ((ns.map D.int).drop spot) (by simp; omega), wp_ok, wp_ex, wp_bind, bnd_ok, bnd_ex, bl_bind, boolR_b, cond_t, cond_f, e_cst, e_var, varR_d, someR_s, e_prim, e_sl, e_slv, e_and, e_or, e_one, e_not, e_tru, e_ife, e_chain, e_call, e_lc, e_pop, s_nil, s_cons, o_no, o_yes, intR_i, pt_no, pt_yes, es_nil, es_val, es_vw, a_nil, a_val, a_vw, it_seq, it_rng, it_enum, opd_n, opd_s, t_set, t_unp, t_par, t_setIx, ownR_l, valR_d, t_aug, t_exp, t_app, frzR_s, t_frz, setS_lt, t_ife, t_ret, t_mov, t_retN, t_brk, t_cnt, t_pass, t_rais, t_tr, wp_try, h_nil, h_cons, then_nx, then_rt, then_bk, then_ct, b_nil, b_cons, after_nx, after_ct, after_bk, after_rt, after_no, after_so, fin_qn, fin_qr, so_vw, so_cst, so_var, so_glob, so_prim, so_sl, so_and, so_or, so_not, so_ife, so_one, so_tru, so_chain, so_call, so_lc, so_pop, snap_d, snap_l, Option.isSome_some, List.getD_cons_zero, List.getD_cons_succ, List.set_cons_zero, List.set_cons_succ, List.length_cons, List.length_nil, Nat.reduceAdd, Nat.reduceSub, Nat.reduceLT, Nat.reduceLeDiff, List.map_cons, List.map_nil, List.replicate, List.cons_append, List.nil_append, List.append_nil, outsOf, wipeE, backE, ownIx, putOuts, Option.toList, It.lk, Es.lk, items_l, items_t, slR_e, sl_t, sl_l, if_true, if_false, Bool.false_eq_true, Bool.true_and, Bool.and_true, Bool.not_true, Bool.not_false, Option.map_some, decide_true, decide_false, q_tup, q_lst, p_add, p_sub, p_mul, p_mod, p_div, p_pow18, p_lt, p_le, p_gt, p_ge, p_eq, p_ne, p_ixL, p_ixT, p_neg, p_lenL, p_lenT, p_int, p_intB, p_abs, p_min, p_max, p_tupL, p_tupT, p_listL, p_listT, p_dic, e_fld, e_prop, e_oeq, so_fld, so_prop, so_oeq, mk_nx, f_nil, f_cons]
      refine hq _ _ (thing_tup (fun x hx => ?_) (by simp; omega)) h6
      rcases List.mem_append.mp hx with z | z
      · rcases List.mem_append.mp z with z | z
        · exact int_fact (List.mem_of_mem_take z)
        · rw [List.mem_singleton.mp z]; exact ho.1
      · exact int_fact (List.mem_of_mem_drop z)
    simp only [wp_ok, wp_ex, wp_bind, bnd_ok, bnd_ex, bl_bind, boolR_b, cond_t, cond_f, e_cst, e_var, varR_d, someR_s, e_prim, e_sl, e_slv, e_and, e_or, e_one, e_not, e_tru, e_ife, e_chain, e_call, e_lc, e_pop, s_nil, s_cons, o_no, o_yes, intR_i, pt_no, pt_yes, es_nil, es_val, es_vw, a_nil, a_val, a_vw, it_seq, it_rng, it_enum, opd_n, opd_s, t_set, t_unp, t_par, t_setIx, ownR_l, valR_d, t_aug, t_exp, t_app, frzR_s, t_frz, setS_lt, t_ife, t_ret, t_mov, t_retN, t_brk, t_cnt, t_pass, t_rais, t_tr, wp_try, h_nil, h_cons, then_nx, then_rt, then_bk, then_ct, b_nil, b_cons, after_nx, after_ct, after_bk, after_rt, after_no, after_so, fin_qn, fin_qr, so_vw, so_cst, so_var, so_glob, so_prim, so_sl, so_and, so_or, so_not, so_ife, so_one, so_tru, so_chain, so_call, so_lc, so_pop, snap_d, snap_l, Option.isSome_some, List.getD_cons_zero, List.getD_cons_succ, List.set_cons_zero, List.set_cons_succ, List.length_cons, List.length_nil, Nat.reduceAdd, Nat.reduceSub, Nat.reduceLT, Nat.reduceLeDiff, List.map_cons, List.map_nil, List.replicate, List.cons_append, List.nil_append, List.append_nil, outsOf, wipeE, backE, ownIx, putOuts, Option.toList, It.lk, Es.lk, items_l, items_t, slR_e, sl_t, sl_l, if_true, if_false, Bool.false_eq_true, Bool.true_and, Bool.and_true, Bool.not_true, Bool.not_false, Option.map_some, decide_true, decide_false, q_tup, q_lst, p_add, p_sub, p_mul, p_mod, p_div, p_pow18, p_lt, p_le, p_gt, p_ge, p_eq, p_ne, p_ixL, p_ixT, p_neg, p_lenL, p_lenT, p_int, p_intB, p_abs, p_min, p_max, p_tupL, p_tupT, p_listL, p_listT, p_dic, e_fld, e_prop, e_oeq, so_fld, so_prop, so_oeq, mk_nx, f_nil, f_cons]
    refine wp_cnd (fun _ => ?_) fun _ => ?_
    · simp only [wp_ok, wp_ex, wp_bind, bnd_ok, bnd_ex, bl_bind, boolR_b, cond_t, cond_f, e_cst, e_var, varR_d, someR_s, e_prim, e_sl, e_slv, e_and, e_or, e_one, e_not, e_tru, e_ife, e_chain, e_call, e_lc, e_pop, s_nil, s_cons, o_no, o_yes, intR_i, pt_no, pt_yes, es_nil, es_val, es_vw, a_nil, a_val, a_vw, it_seq, it_rng, it_enum, opd_n, opd_s, t_set, t_unp, t_par, t_setIx, ownR_l, valR_d, t_aug, t_exp, t_app, frzR_s, t_frz, setS_lt, t_ife, t_ret, t_mov, t_retN, t_brk, t_cnt, t_pass, t_rais, t_tr, wp_try, h_nil, h_cons, then_nx, then_rt, then_bk, then_ct, b_nil, b_cons, after_nx, after_ct, after_bk, after_rt, after_no, after_so, fin_qn, fin_qr, so_vw, so_cst, so_var, so_glob, so_prim, so_sl, so_and, so_or, so_not, so_ife, so_one, so_tru, so_chain, so_call, so_lc, so_pop, snap_d, snap_l, Option.isSome_some, List.getD_cons_zero, List.getD_cons_succ, List.set_cons_zero, List.set_cons_succ, List.length_cons, List.length_nil, Nat.reduceAdd, Nat.reduceSub, Nat.reduceLT, Nat.reduceLeDiff, List.map_cons, List.map_nil, List.replicate, List.cons_append, List.nil_append, List.append_nil, outsOf, wipeE, backE, ownIx, putOuts, Option.toList, It.lk, Es.lk, items_l, items_t, slR_e, sl_t, sl_l, if_true, if_false, Bool.false_eq_true, Bool.true_and, Bool.and_true, Bool.not_true, Bool.not_false, Option.map_some, decide_true, decide_false, q_tup, q_lst, p_add, p_sub, p_mul, p_mod, p_div, p_pow18, p_lt, p_le, p_gt, p_ge, p_eq, p_ne, p_ixL, p_ixT, p_neg, p_lenL, p_lenT, p_int, p_intB, p_abs, p_min, p_max, p_tupL, p_tupT, p_listL, p_listT, p_dic, e_fld, e_prop, e_oeq, so_fld, so_prop, so_oeq, mk_nx, f_nil, f_cons]
      refine w_draw (n := 6) h6 (by decide) (by decide) fun r3 d7 hr3 h7 => ?_
      simp only [wp_ok, wp_ex, wp_bind, bnd_ok, bnd_ex, bl_bind, boolR_b, cond_t, cond_f, e_cst, e_var, varR_d, someR_s, e_prim, e_sl, e_slv, e_and, e_or, e_one, e_not, e_tru, e_ife, e_chain, e_call, e_lc, e_pop, s_nil, s_cons, o_no, o_yes, intR_i, pt_no, pt_yes, es_nil, es_val, es_vw, a_nil, a_val, a_vw, it_seq, it_rng, it_enum, opd_n, opd_s, t_set, t_unp, t_par, t_setIx, ownR_l, valR_d, t_aug, t_exp, t_app, frzR_s, t_frz, setS_lt, t_ife, t_ret, t_mov, t_retN, t_brk, t_cnt, t_pass, t_rais, t_tr, wp_try, h_nil, h_cons, then_nx, then_rt, then_bk, then_ct, b_nil, b_cons, after_nx, after_ct, after_bk, after_rt, after_no, after_so, fin_qn, fin_qr, so_vw, so_cst, so_var, so_glob, so_prim, so_sl, so_and, so_or, so_not, so_ife, so_one, so_tru, so_chain, so_call, so_lc, so_pop, snap_d, snap_l, Option.isSome_some, List.getD_cons_zero, List.getD_cons_succ, List.set_cons_zero, List.set_cons_succ, List.length_cons, List.length_nil, Nat.reduceAdd, Nat.reduceSub, Nat.reduceLT, Nat.reduceLeDiff, List.map_cons, List.map_nil, List.replicate, List.cons_append, List.nil_append, List.append_nil, outsOf, wipeE, backE, ownIx, putOuts, Option.toList, It.lk, Es.lk, items_l, items_t, slR_e, sl_t, sl_l, if_true, if_false, Bool.false_eq_true, Bool.true_and, Bool.and_true, Bool.not_true, Bool.not_false, Option.map_some, decide_true, decide_false, q_tup, q_lst, p_add, p_sub, p_mul, p_mod, p_div, p_pow18, p_lt, p_le, p_gt, p_ge, p_eq, p_ne, p_ixL, p_ixT, p_neg, p_lenL, p_lenT, p_int, p_intB, p_abs, p_min, p_max, p_tupL, p_tupT, p_listL, p_listT, p_dic, e_fld, e_prop, e_oeq, so_fld, so_prop, so_oeq, mk_nx, f_nil, f_cons]
      refine wp_ix Thing (fun x hx => ?_) hr3 fun x hx => ?_
      · simp only [List.mem_cons, List.mem_nil_iff, or_false] at hx
        rcases hx with rfl | rfl | rfl | rfl | rfl | rfl
        all_goals first | exact thing_no rfl rfl | exact ho
      · simp only [wp_ok, wp_ex, wp_bind, bnd_ok, bnd_ex, bl_bind, boolR_b, cond_t, cond_f, e_cst, e_var, varR_d, someR_s, e_prim, e_sl, e_slv, e_and, e_or, e_one, e_not, e_tru, e_ife, e_chain, e_call, e_lc, e_pop, s_nil, s_cons, o_no, o_yes, intR_i, pt_no, pt_yes, es_nil, es_val, es_vw, a_nil, a_val, a_vw, it_seq, it_rng, it_enum, opd_n, opd_s, t_set, t_unp, t_par, t_setIx, ownR_l, valR_d, t_aug, t_exp, t_app, frzR_s, t_frz, setS_lt, t_ife, t_ret, t_mov, t_retN, t_brk, t_cnt, t_pass, t_rais, t_tr, wp_try, h_nil, h_cons, then_nx, then_rt, then_bk, then_ct, b_nil, b_cons, after_nx, after_ct, after_bk, after_rt, after_no, after_so, fin_qn, fin_qr, so_vw, so_cst, so_var, so_glob, so_prim, so_sl, so_and, so_or, so_not, so_ife, so_one, so_tru, so_chain, so_call, so_lc, so_pop, snap_d, snap_l, Option.isSome_some, List.getD_cons_zero, List.getD_cons_succ, List.set_cons_zero, List.set_cons_succ, List.length_cons, List.length_nil, Nat.reduceAdd, Nat.reduceSub, Nat.reduceLT, Nat.reduceLeDiff, List.map_cons, List.map_nil, List.replicate, List.cons_append, List.nil_append, List.append_nil, outsOf, wipeE, backE, ownIx, putOuts, Option.toList, It.lk, Es.lk, items_l, items_t, slR_e, sl_t, sl_l, if_true, if_false, Bool.false_eq_true, Bool.true_and, Bool.and_true, Bool.not_true, Bool.not_false, Option.map_some, decide_true, decide_false, q_tup, q_lst, p_add, p_sub, p_mul, p_mod, p_div, p_pow18, p_lt, p_le, p_gt, p_ge, p_eq, p_ne, p_ixL, p_ixT, p_neg, p_lenL, p_lenT, p_int, p_intB, p_abs, p_min, p_max, p_tupL, p_tupT, p_listL, p_listT, p_dic, e_fld, e_prop, e_oeq, so_fld, so_prop, so_oeq, mk_nx, f_nil, f_cons]
        exact hq _ _ hx h7
    simp only [wp_ok, wp_ex, wp_bind, bnd_ok, bnd_ex, bl_bind, boolR_b, cond_t, cond_f, e_cst, e_var, varR_d, someR_s, e_prim, e_sl, e_slv, e_and, e_or, e_one, e_not, e_tru, e_ife, e_chain, e_call, e_lc, e_pop, s_nil, s_cons, o_no, o_yes, intR_i, pt_no, pt_yes, es_nil, es_val, es_vw, a_nil, a_val, a_vw, it_seq, it_rng, it_enum, opd_n, opd_s, t_set, t_unp, t_par, t_setIx, ownR_l, valR_d, t_aug, t_exp, t_app, frzR_s, t_frz, setS_lt, t_ife, t_ret, t_mov, t_retN, t_brk, t_cnt, t_pass, t_rais, t_tr, wp_try, h_nil, h_cons, then_nx, then_rt, then_bk, then_ct, b_nil, b_cons, after_nx, after_ct, after_bk, after_rt, after_no, after_so, fin_qn, fin_qr, so_vw, so_cst, so_var, so_glob, so_prim, so_sl, so_and, so_or, so_not, so_ife, so_one, so_tru, so_chain, so_call, so_lc, so_pop, snap_d, snap_l, Option.isSome_some, List.getD_cons_zero, List.getD_cons_succ, List.set_cons_zero, List.set_cons_succ, List.length_cons, List.length_nil, Nat.reduceAdd, Nat.reduceSub, Nat.reduceLT, Nat.reduceLeDiff, List.map_cons, List.map_nil, List.replicate, List.cons_append, List.nil_append, List.append_nil, outsOf, wipeE, backE, ownIx, putOuts, Option.toList, It.lk, Es.lk, items_l, items_t, slR_e, sl_t, sl_l, if_true, if_false, Bool.false_eq_true, Bool.true_and, Bool.and_true, Bool.not_true, Bool.not_false, Option.map_some, decide_true, decide_false, q_tup, q_lst, p_add, p_sub, p_mul, p_mod, p_div, p_pow18, p_lt, p_le, p_gt, p_ge, p_eq, p_ne, p_ixL, p_ixT, p_neg, p_lenL, p_lenT, p_int, p_intB, p_abs, p_min, p_max, p_tupL, p_tupT, p_listL, p_listT, p_dic, e_fld, e_prop, e_oeq, so_fld, so_prop, so_oeq, mk_nx, f_nil, f_cons]
    refine wp_cnd (fun _ => ?_) fun _ => ?_
    · simp only [wp_ok, wp_ex, wp_bind, bnd_ok, bnd_ex, bl_bind, boolR_b, cond_t, cond_f, e_cst, e_var, varR_d, someR_s, e_prim, e_sl, e_slv, e_and, e_or, e_one, e_not, e_tru, e_ife, e_chain, e_call, e_lc, e_pop, s_nil, s_cons, o_no, o_yes, intR_i, pt_no, pt_yes, es_nil, es_val, es_vw, a_nil, a_val, a_vw, it_seq, it_rng, it_enum, opd_n, opd_s, t_set, t_unp, t_par, t_setIx, ownR_l, valR_d, t_aug, t_exp, t_app, frzR_s, t_frz, setS_lt, t_ife, t_ret, t_mov, t_retN, t_brk, t_cnt, t_pass, t_rais, t_tr, wp_try, h_nil, h_cons, then_nx, then_rt, then_bk, then_ct, b_nil, b_cons, after_nx, after_ct, after_bk, after_rt, after_no, after_so, fin_qn, fin_qr, so_vw, so_cst, so_var, so_glob, so_prim, so_sl, so_and, so_or, so_not, so_ife, so_one, so_tru, so_chain, so_call, so_lc, so_pop, snap_d, snap_l, Option.isSome_some, List.getD_cons_zero, List.getD_cons_succ, List.set_cons_zero, List.set_cons_succ, List.length_cons, List.length_nil, Nat.reduceAdd, Nat.reduceSub, Nat.reduceLT, Nat.reduceLeDiff, List.map_cons, List.map_nil, List.replicate, List.cons_append, List.nil_append, List.append_nil, outsOf, wipeE, backE, ownIx, putOuts, Option.toList, It.lk, Es.lk, items_l, items_t, slR_e, sl_t, sl_l, if_true, if_false, Bool.false_eq_true, Bool.true_and, Bool.and_true, Bool.not_true, Bool.not_false, Option.map_some, decide_true, decide_false, q_tup, q_lst, p_add, p_sub, p_mul, p_mod, p_div, p_pow18, p_lt, p_le, p_gt, p_ge, p_eq, p_ne, p_ixL, p_ixT, p_neg, p_lenL, p_lenT, p_int, p_intB, p_abs, p_min, p_max, p_tupL, p_tupT, p_listL, p_listT, p_dic, e_fld, e_prop, e_oeq, so_fld, so_prop, so_oeq, mk_nx, f_nil, f_cons]
      refine wp_cnd (fun hp => ?_) fun _ => ?_
      · have hp : 0 < many := by
          have := of_decide_eq_true hp
          omega
        have c3 : cutG (ns.map D.int) (some 1) none = (ns.map D.int).drop 1 := cut_from (j := 1) (by rw [List.length_map]; omega)
        have al : ((ns.map D.int).drop 1).all D.isInt = true := List.all_eq_true.mpr fun x hx => by
          obtain ⟨i, _, rfl⟩ := List.mem_map.mp (List.mem_of_mem_drop hx)
          rfl
        generalize hg : (12 : Int) - ((((ns.map D.int).drop 1).map D.getInt).sum) = rest
        simp only [c3, sum_t al, hg, q_tup [D.int rest] (by simp), q_addT [D.int rest] ((ns.map D.int).drop 1) (by simp; omega), wp_ok, wp_ex, wp_bind, bnd_ok, bnd_ex, bl_bind, boolR_b, cond_t, cond_f, e_cst, e_var, varR_d, someR_s, e_prim, e_sl, e_slv, e_and, e_or, e_one, e_not, e_tru, e_ife, e_chain, e_call, e_lc, e_pop, s_nil, s_cons, o_no, o_yes, intR_i, pt_no, pt_yes, es_nil, es_val, es_vw, a_nil, a_val, a_vw, it_seq, it_rng, it_enum, opd_n, opd_s, t_set, t_unp, t_par, t_setIx, ownR_l, valR_d, t_aug, t_exp, t_app, frzR_s, t_frz, setS_lt, t_ife, t_ret, t_mov, t_retN, t_brk, t_cnt, t_pass, t_rais, t_tr, wp_try, h_nil, h_cons, then_nx, then_rt, then_bk, then_ct, b_nil, b_cons, after_nx, after_ct, after_bk, after_rt, after_no, after_so, fin_qn, fin_qr, so_vw, so_cst, so_var, so_glob, so_prim, so_sl, so_and, so_or, so_not, so_ife, so_one, so_tru, so_chain, so_call, so_lc, so_pop, snap_d, snap_l, Option.isSome_some, List.getD_cons_zero, List.getD_cons_succ, List.set_cons_zero, List.set_cons_succ, List.length_cons, List.length_nil, Nat.reduceAdd, Nat.reduceSub, Nat.reduceLT, Nat.reduceLeDiff, List.map_cons, List.map_nil, List.replicate, List.cons_append, List.nil_append, List.append_nil, outsOf, wipeE, backE, ownIx, putOuts, Option.toList, It.lk, Es.lk, items_l, items_t, slR_e, sl_t, sl_l, if_true, if_false, Bool.false_eq_true, Bool.true_and, Bool.and_true, Bool.not_true, Bool.not_false, Option.map_some, decide_true, decide_false, q_tup, q_lst, p_add, p_sub, p_mul, p_mod, p_div, p_pow18, p_lt, p_le, p_gt, p_ge, p_eq, p_ne, p_ixL, p_ixT, p_neg, p_lenL, p_lenT, p_int, p_intB, p_abs, p_min, p_max, p_tupL, p_tupT, p_listL, p_listT, p_dic, e_fld, e_prop, e_oeq, so_fld, so_prop, so_oeq, mk_nx, f_nil, f_cons]
        refine hq _ _ (thing_tup (fun x hx => ?_) (by simp; omega)) h6
        rcases List.mem_cons.mp hx with z | z
        · rw [z]; rfl
        · exact int_fact (List.mem_of_mem_drop z)
      · simp only [wp_ok, wp_ex, wp_bind, bnd_ok, bnd_ex, bl_bind, boolR_b, cond_t, cond_f, e_cst, e_var, varR_d, someR_s, e_prim, e_sl, e_slv, e_and, e_or, e_one, e_not, e_tru, e_ife, e_chain, e_call, e_lc, e_pop, s_nil, s_cons, o_no, o_yes, intR_i, pt_no, pt_yes, es_nil, es_val, es_vw, a_nil, a_val, a_vw, it_seq, it_rng, it_enum, opd_n, opd_s, t_set, t_unp, t_par, t_setIx, ownR_l, valR_d, t_aug, t_exp, t_app, frzR_s, t_frz, setS_lt, t_ife, t_ret, t_mov, t_retN, t_brk, t_cnt, t_pass, t_rais, t_tr, wp_try, h_nil, h_cons, then_nx, then_rt, then_bk, then_ct, b_nil, b_cons, after_nx, after_ct, after_bk, after_rt, after_no, after_so, fin_qn, fin_qr, so_vw, so_cst, so_var, so_glob, so_prim, so_sl, so_and, so_or, so_not, so_ife, so_one, so_tru, so_chain, so_call, so_lc, so_pop, snap_d, snap_l, Option.isSome_some, List.getD_cons_zero, List.getD_cons_succ, List.set_cons_zero, List.set_cons_succ, List.length_cons, List.length_nil, Nat.reduceAdd, Nat.reduceSub, Nat.reduceLT, Nat.reduceLeDiff, List.map_cons, List.map_nil, List.replicate, List.cons_append, List.nil_append, List.append_nil, outsOf, wipeE, backE, ownIx, putOuts, Option.toList, It.lk, Es.lk, items_l, items_t, slR_e, sl_t, sl_l, if_true, if_false, Bool.false_eq_true, Bool.true_and, Bool.and_true, Bool.not_true, Bool.not_false, Option.map_some, decide_true, decide_false, q_tup, q_lst, p_add, p_sub, p_mul, p_mod, p_div, p_pow18, p_lt, p_le, p_gt, p_ge, p_eq, p_ne, p_ixL, p_ixT, p_neg, p_lenL, p_lenT, p_int, p_intB, p_abs, p_min, p_max, p_tupL, p_tupT, p_listL, p_listT, p_dic, e_fld, e_prop, e_oeq, so_fld, so_prop, so_oeq, mk_nx, f_nil, f_cons]
        exact hq _ _ (thing_tup (fun x hx => int_fact hx) (by simp; omega)) h6
    · simp only [wp_ok, wp_ex, wp_bind, bnd_ok, bnd_ex, bl_bind, boolR_b, cond_t, cond_f, e_cst, e_var, varR_d, someR_s, e_prim, e_sl, e_slv, e_and, e_or, e_one, e_not, e_tru, e_ife, e_chain, e_call, e_lc, e_pop, s_nil, s_cons, o_no, o_yes, intR_i, pt_no, pt_yes, es_nil, es_val, es_vw, a_nil, a_val, a_vw, it_seq, it_rng, it_enum, opd_n, opd_s, t_set, t_unp, t_par, t_setIx, ownR_l, valR_d, t_aug, t_exp, t_app, frzR_s, t_frz, setS_lt, t_ife, t_ret, t_mov, t_retN, t_brk, t_cnt, t_pass, t_rais, t_tr, wp_try, h_nil, h_cons, then_nx, then_rt, then_bk, then_ct, b_nil, b_cons, after_nx, after_ct, after_bk, after_rt, after_no, after_so, fin_qn, fin_qr, so_vw, so_cst, so_var, so_glob, so_prim, so_sl, so_and, so_or, so_not, so_ife, so_one, so_tru, so_chain, so_call, so_lc, so_pop, snap_d, snap_l, Option.isSome_some, List.getD_cons_zero, List.getD_cons_succ, List.set_cons_zero, List.set_cons_succ, List.length_cons, List.length_nil, Nat.reduceAdd, Nat.reduceSub, Nat.reduceLT, Nat.reduceLeDiff, List.map_cons, List.map_nil, List.replicate, List.cons_append, List.nil_append, List.append_nil, outsOf, wipeE, backE, ownIx, putOuts, Option.toList, It.lk, Es.lk, items_l, items_t, slR_e, sl_t, sl_l, if_true, if_false, Bool.false_eq_true, Bool.true_and, Bool.and_true, Bool.not_true, Bool.not_false, Option.map_some, decide_true, decide_false, q_tup, q_lst, p_add, p_sub, p_mul, p_mod, p_div, p_pow18, p_lt, p_le, p_gt, p_ge, p_eq, p_ne, p_ixL, p_ixT, p_neg, p_lenL, p_lenT, p_int, p_intB, p_abs, p_min, p_max, p_tupL, p_tupT, p_listL, p_listT, p_dic, e_fld, e_prop, e_oeq, so_fld, so_prop, so_oeq, mk_nx, f_nil, f_cons]
      exact hq _ _ (thing_tup (fun x hx => int_fact hx) (by simp; omega)) h6
  · rintro n d acc env2 hd ⟨d3, ns, h3, rfl, hl, rfl⟩
    have hn := (rng_at hd).1
    rw [lcT_n _ (by show 8 < 9; decide)]
    simp only [wp_ok, wp_ex, wp_bind, bnd_ok, bnd_ex, bl_bind, boolR_b, cond_t, cond_f, e_cst, e_var, varR_d, someR_s, e_prim, e_sl, e_slv, e_and, e_or, e_one, e_not, e_tru, e_ife, e_chain, e_call, e_lc, e_pop, s_nil, s_cons, o_no, o_yes, intR_i, pt_no, pt_yes, es_nil, es_val, es_vw, a_nil, a_val, a_vw, it_seq, it_rng, it_enum, opd_n, opd_s, t_set, t_unp, t_par, t_setIx, ownR_l, valR_d, t_aug, t_exp, t_app, frzR_s, t_frz, setS_lt, t_ife, t_ret, t_mov, t_retN, t_brk, t_cnt, t_pass, t_rais, t_tr, wp_try, h_nil, h_cons, then_nx, then_rt, then_bk, then_ct, b_nil, b_cons, after_nx, after_ct, after_bk, after_rt, after_no, after_so, fin_qn, fin_qr, so_vw, so_cst, so_var, so_glob, so_prim, so_sl, so_and, so_or, so_not, so_ife, so_one, so_tru, so_chain, so_call, so_lc, so_pop, snap_d, snap_l, Option.isSome_some, List.getD_cons_zero, List.getD_cons_succ, List.set_cons_zero, List.set_cons_succ, List.length_cons, List.length_nil, Nat.reduceAdd, Nat.reduceSub, Nat.reduceLT, Nat.reduceLeDiff, List.map_cons, List.map_nil, List.replicate, List.cons_append, List.nil_append, List.append_nil, outsOf, wipeE, backE, ownIx, putOuts, Option.toList, It.lk, Es.lk, items_l, items_t, slR_e, sl_t, sl_l, if_true, if_false, Bool.false_eq_true, Bool.true_and, Bool.and_true, Bool.not_true, Bool.not_false, Option.map_some, decide_true, decide_false, q_tup, q_lst, p_add, p_sub, p_mul, p_mod, p_div, p_pow18, p_lt, p_le, p_gt, p_ge, p_eq, p_ne, p_ixL, p_ixT, p_neg, p_lenL, p_lenT, p_int, p_intB, p_abs, p_min, p_max, p_tupL, p_tupT, p_listL, p_listT, p_dic, e_fld, e_prop, e_oeq, so_fld, so_prop, so_oeq, mk_nx, f_nil, f_cons]
    refine w_draw (n := (high : Int)) h3 (by omega) (by omega) fun a d4 ha h4 => ?_
    simp only [wp_ok, wp_ex, wp_bind, bnd_ok, bnd_ex, bl_bind, boolR_b, cond_t, cond_f, e_cst, e_var, varR_d, someR_s, e_prim, e_sl, e_slv, e_and, e_or, e_one, e_not, e_tru, e_ife, e_chain, e_call, e_lc, e_pop, s_nil, s_cons, o_no, o_yes, intR_i, pt_no, pt_yes, es_nil, es_val, es_vw, a_nil, a_val, a_vw, it_seq, it_rng, it_enum, opd_n, opd_s, t_set, t_unp, t_par, t_setIx, ownR_l, valR_d, t_aug, t_exp, t_app, frzR_s, t_frz, setS_lt, t_ife, t_ret, t_mov, t_retN, t_brk, t_cnt, t_pass, t_rais, t_tr, wp_try, h_nil, h_cons, then_nx, then_rt, then_bk, then_ct, b_nil, b_cons, after_nx, after_ct, after_bk, after_rt, after_no, after_so, fin_qn, fin_qr, so_vw, so_cst, so_var, so_glob, so_prim, so_sl, so_and, so_or, so_not, so_ife, so_one, so_tru, so_chain, so_call, so_lc, so_pop, snap_d, snap_l, Option.isSome_some, List.getD_cons_zero, List.getD_cons_succ, List.set_cons_zero, List.set_cons_succ, List.length_cons, List.length_nil, Nat.reduceAdd, Nat.reduceSub, Nat.reduceLT, Nat.reduceLeDiff, List.map_cons, List.map_nil, List.replicate, List.cons_append, List.nil_append, List.append_nil, outsOf, wipeE, backE, ownIx, putOuts, Option.toList, It.lk, Es.lk, items_l, items_t, slR_e, sl_t, sl_l, if_true, if_false, Bool.false_eq_true, Bool.true_and, Bool.and_true, Bool.not_true, Bool.not_false, Option.map_some, decide_true, decide_false, q_tup, q_lst, p_add, p_sub, p_mul, p_mod, p_div, p_pow18, p_lt, p_le, p_gt, p_ge, p_eq, p_ne, p_ixL, p_ixT, p_neg, p_lenL, p_lenT, p_int, p_intB, p_abs, p_min, p_max, p_tupL, p_tupT, p_listL, p_listT, p_dic, e_fld, e_prop, e_oeq, so_fld, so_prop, so_oeq, mk_nx, f_nil, f_cons]
    refine w_draw (n := 8) h4 (by decide) (by decide) fun b d5 hb h5 => ?_
    simp only [wp_ok, wp_ex, wp_bind, bnd_ok, bnd_ex, bl_bind, boolR_b, cond_t, cond_f, e_cst, e_var, varR_d, someR_s, e_prim, e_sl, e_slv, e_and, e_or, e_one, e_not, e_tru, e_ife, e_chain, e_call, e_lc, e_pop, s_nil, s_cons, o_no, o_yes, intR_i, pt_no, pt_yes, es_nil, es_val, es_vw, a_nil, a_val, a_vw, it_seq, it_rng, it_enum, opd_n, opd_s, t_set, t_unp, t_par, t_setIx, ownR_l, valR_d, t_aug, t_exp, t_app, frzR_s, t_frz, setS_lt, t_ife, t_ret, t_mov, t_retN, t_brk, t_cnt, t_pass, t_rais, t_tr, wp_try, h_nil, h_cons, then_nx, then_rt, then_bk, then_ct, b_nil, b_cons, after_nx, after_ct, after_bk, after_rt, after_no, after_so, fin_qn, fin_qr, so_vw, so_cst, so_var, so_glob, so_prim, so_sl, so_and, so_or, so_not, so_ife, so_one, so_tru, so_chain, so_call, so_lc, so_pop, snap_d, snap_l, Option.isSome_some, List.getD_cons_zero, List.getD_cons_succ, List.set_cons_zero, List.set_cons_succ, List.length_cons, List.length_nil, Nat.reduceAdd, Nat.reduceSub, Nat.reduceLT, Nat.reduceLeDiff, List.map_cons, List.map_nil, List.replicate, List.cons_append, List.nil_append, List.append_nil, outsOf, wipeE, backE, ownIx, putOuts, Option.toList, It.lk, Es.lk, items_l, items_t, slR_e, sl_t, sl_l, if_true, if_false, Bool.false_eq_true, Bool.true_and, Bool.and_true, Bool.not_true, Bool.not_false, Option.map_some, decide_true, decide_false, q_tup, q_lst, p_add, p_sub, p_mul, p_mod, p_div, p_pow18, p_lt, p_le, p_gt, p_ge, p_eq, p_ne, p_ixL, p_ixT, p_neg, p_lenL, p_lenT, p_int, p_intB, p_abs, p_min, p_max, p_tupL, p_tupT, p_listL, p_listT, p_dic, e_fld, e_prop, e_oeq, so_fld, so_prop, so_oeq, mk_nx, f_nil, f_cons]
    refine ⟨by rw [List.length_map]; exact Nat.lt_of_lt_of_le (by omega) (small_le (show 1000 ≤ 1000000 by decide)), d5, ns ++ [(a : Int) + if decide (0 < (b : Int)) = true then 1 else 0], h5, ?_, by rw [List.length_append, List.length_singleton, hl], rfl⟩
    rw [List.map_append, List.map_singleton]
end W

set_option maxHeartbeats 8000000
namespace W
open AM PySem
theorem eq_selfF {n : Nat} {d : D} (h : Sh n d) (hn : n ≤ 64) : eqF d d = some true := by
  rw [eqF_by (h.shaped hn) (h.shaped hn), SeqAt.eqv_refl _ h.1]
theorem eq_some {n m : Nat} {d e : D} (h : Sh n d) (hn : n ≤ 64) (h2 : Sh m e) (hm : m ≤ 64) : ∃ r, eqF d e = some r := ⟨_, eqF_by (h.shaped hn) (h2.shaped hm)⟩
theorem sh_okI {ds : List D} (h : ds.all okI = true) : Sh 1 (.tup ds) := sh_tup fun x hx => by
  have := List.all_eq_true.mp h x hx
  cases x <;> first | exact sh_int _ | (cases this; done)
theorem sh_nons {ds : List D} : Sh 2 (.tup (ds.map nons)) := sh_tup fun x hx => by
  obtain ⟨d, _, rfl⟩ := List.mem_map.mp hx
  exact sh_tup fun y hy => by rw [(List.mem_replicate.mp hy).2]; exact sh_non
theorem o_self {C : Cl} {ne : Bool} {n : Nat} {d : D} {env : AM.Env} (h : Sh n d) (hn : n ≤ 64) (ho : noObj d = true) : oeqK C 2 4 ne d d env = .ok (.d (.bl (true != ne))) env := oeq_plain ho ho (eq_selfF h hn)
theorem o_bl {C : Cl} {ne : Bool} {a b : Bool} {env : AM.Env} : oeqK C 2 4 ne (.bl a) (.bl b) env = .ok (.d (.bl ((a == b) != ne))) env := oeq_plain rfl rfl (by cases a <;> cases b <;> decide +kernel)
theorem o_bad {C : Cl} {env : AM.Env} : oeqK C 2 4 false (.str "bad") (.str "machine") env = .ok (.d (.bl false)) env := oeq_plain (b := false) rfl rfl (by decide +kernel)
theorem o_mach {C : Cl} {env : AM.Env} : oeqK C 2 4 false (.str "machine") (.str "machine") env = .ok (.d (.bl true)) env := oeq_plain (b := true) rfl rfl (by decide +kernel)
theorem at_bad : L2.atI [D.str "bad"] (0 : Int) = some (.str "bad") := (rfl)
theorem at_m0 (m : D) : L2.atI [D.str "machine", m] (0 : Int) = some (.str "machine") := (rfl)
theorem at_m1 (m : D) : L2.atI [D.str "machine", m] (1 : Int) = some m := (rfl)
theorem bb1 : (true != true) = false := (rfl)
theorem bb2 : (true != false) = true := (rfl)
theorem bb3 : (false != true) = true := (rfl)
theorem bb4 : (false != false) = false := (rfl)
theorem bb5 : (true == true) = true := (rfl)
theorem bb6 : (true == false) = false := (rfl)
theorem bb7 : (false == true) = false := (rfl)
theorem bb8 : (false == false) = true := (rfl)
theorem sum_m {ds : List D} (h : ds.all okI = true) : primF (.bi .sum) [.tup ds] = some (.d (.int (sumI ds))) := sum_t (okI_int h)
/-- a machine known so far -/
def Km (m : D) : Prop := ∃ ds, m = mach ds ∧ ds.all okI = true
theorem law_true (ns : List Int) (h : ns.length ≤ 63) : ∃ outs, P.call 8 12 [.d (.lst (ns.map .int))] = .ok (.d (.bl true)) outs := by
  obtain ⟨ds0, hd0, e0⟩ := dice_ok ⟨P.call 6, P.io, P.glob⟩ P.isa h
  have e0' : P.call 7 6 [.d (.lst (ns.map .int))] = .ok (.l ds0) [] := by rw [call_eq (fn := c__law_dice) rfl]; exact e0
  suffices q : (P.call 8 12 [.d (.lst (ns.map .int))]).wp (fun t o => t = .d (.bl true)) fun _ _ => False by
    obtain ⟨t, o, e, rfl⟩ := wp_get q
    exact ⟨o, e⟩
  refine wp_def (fn := c_law) rfl rfl rfl ?_
  simp only [c_law, wp_ok, wp_ex, wp_bind, bnd_ok, bnd_ex, bl_bind, boolR_b, cond_t, cond_f, e_cst, e_var, varR_d, someR_s, e_prim, e_sl, e_slv, e_and, e_or, e_one, e_not, e_tru, e_ife, e_chain, e_call, e_lc, e_pop, s_nil, s_cons, o_no, o_yes, intR_i, pt_no, pt_yes, es_nil, es_val, es_vw, a_nil, a_val, a_vw, it_seq, it_rng, it_enum, opd_n, opd_s, t_set, t_unp, t_par, t_setIx, ownR_l, valR_d, t_aug, t_exp, t_app, frzR_s, t_frz, setS_lt, t_ife, t_ret, t_mov, t_retN, t_brk, t_cnt, t_pass, t_rais, t_tr, wp_try, h_nil, h_cons, then_nx, then_rt, then_bk, then_ct, b_nil, b_cons, after_nx, after_ct, after_bk, after_rt, after_no, after_so, fin_qn, fin_qr, so_vw, so_cst, so_var, so_glob, so_prim, so_sl, so_and, so_or, so_not, so_ife, so_one, so_tru, so_chain, so_call, so_lc, so_pop, snap_d, snap_l, Option.isSome_some, List.getD_cons_zero, List.getD_cons_succ, List.set_cons_zero, List.set_cons_succ, List.length_cons, List.length_nil, Nat.reduceAdd, Nat.reduceSub, Nat.reduceLT, Nat.reduceLeDiff, List.map_cons, List.map_nil, List.replicate, List.cons_append, List.nil_append, List.append_nil, outsOf, wipeE, backE, ownIx, putOuts, Option.toList, It.lk, Es.lk, items_l, items_t, slR_e, sl_t, sl_l, if_true, if_false, Bool.false_eq_true, Bool.true_and, Bool.and_true, Bool.not_true, Bool.not_false, Option.map_some, decide_true, decide_false, q_tup, q_lst, p_add, p_sub, p_mul, p_mod, p_div, p_pow18, p_lt, p_le, p_gt, p_ge, p_eq, p_ne, p_ixL, p_ixT, p_neg, p_lenL, p_lenT, p_int, p_intB, p_abs, p_min, p_max, p_tupL, p_tupT, p_listL, p_listT, p_dic, e_fld, e_prop, e_oeq, so_fld, so_prop, so_oeq, mk_nx, f_nil, f_cons]
  refine wp_pure e0' rfl rfl ?_
  simp only [q_lst [] (by decide), wp_ok, wp_ex, wp_bind, bnd_ok, bnd_ex, bl_bind, boolR_b, cond_t, cond_f, e_cst, e_var, varR_d, someR_s, e_prim, e_sl, e_slv, e_and, e_or, e_one, e_not, e_tru, e_ife, e_chain, e_call, e_lc, e_pop, s_nil, s_cons, o_no, o_yes, intR_i, pt_no, pt_yes, es_nil, es_val, es_vw, a_nil, a_val, a_vw, it_seq, it_rng, it_enum, opd_n, opd_s, t_set, t_unp, t_par, t_setIx, ownR_l, valR_d, t_aug, t_exp, t_app, frzR_s, t_frz, setS_lt, t_ife, t_ret, t_mov, t_retN, t_brk, t_cnt, t_pass, t_rais, t_tr, wp_try, h_nil, h_cons, then_nx, then_rt, then_bk, then_ct, b_nil, b_cons, after_nx, after_ct, after_bk, after_rt, after_no, after_so, fin_qn, fin_qr, so_vw, so_cst, so_var, so_glob, so_prim, so_sl, so_and, so_or, so_not, so_ife, so_one, so_tru, so_chain, so_call, so_lc, so_pop, snap_d, snap_l, Option.isSome_some, List.getD_cons_zero, List.getD_cons_succ, List.set_cons_zero, List.set_cons_succ, List.length_cons, List.length_nil, Nat.reduceAdd, Nat.reduceSub, Nat.reduceLT, Nat.reduceLeDiff, List.map_cons, List.map_nil, List.replicate, List.cons_append, List.nil_append, List.append_nil, outsOf, wipeE, backE, ownIx, putOuts, Option.toList, It.lk, Es.lk, items_l, items_t, slR_e, sl_t, sl_l, if_true, if_false, Bool.false_eq_true, Bool.true_and, Bool.and_true, Bool.not_true, Bool.not_false, Option.map_some, decide_true, decide_false, q_tup, q_lst, p_add, p_sub, p_mul, p_mod, p_div, p_pow18, p_lt, p_le, p_gt, p_ge, p_eq, p_ne, p_ixL, p_ixT, p_neg, p_lenL, p_lenT, p_int, p_intB, p_abs, p_min, p_max, p_tupL, p_tupT, p_listL, p_listT, p_dic, e_fld, e_prop, e_oeq, so_fld, so_prop, so_oeq, mk_nx, f_nil, f_cons]
  refine wp_fo (ds := (List.range 8).map fun (n : Nat) => D.int n) (fun n env => ∃ (d2 : List D) (ms : List D) (x3 x4 x5 x6 x7 : Option T), Die d2 ∧ (∀ m ∈ ms, Km m) ∧ ms.length ≤ n ∧ env = [some (.d (.lst (ns.map .int))), some (.l d2), some (.l ms), x3, x4, x5, x6, x7]) (env0 := [some (.d (.lst (ns.map .int))), some (.l ds0), some (.l []), none, none, none, none, none]) ?_ ?_ ?_ ?_ ?_
  · rfl
  · simp only [rng_to 8 (by decide), wp_ok, wp_ex, wp_bind, bnd_ok, bnd_ex, bl_bind, boolR_b, cond_t, cond_f, e_cst, e_var, varR_d, someR_s, e_prim, e_sl, e_slv, e_and, e_or, e_one, e_not, e_tru, e_ife, e_chain, e_call, e_lc, e_pop, s_nil, s_cons, o_no, o_yes, intR_i, pt_no, pt_yes, es_nil, es_val, es_vw, a_nil, a_val, a_vw, it_seq, it_rng, it_enum, opd_n, opd_s, t_set, t_unp, t_par, t_setIx, ownR_l, valR_d, t_aug, t_exp, t_app, frzR_s, t_frz, setS_lt, t_ife, t_ret, t_mov, t_retN, t_brk, t_cnt, t_pass, t_rais, t_tr, wp_try, h_nil, h_cons, then_nx, then_rt, then_bk, then_ct, b_nil, b_cons, after_nx, after_ct, after_bk, after_rt, after_no, after_so, fin_qn, fin_qr, so_vw, so_cst, so_var, so_glob, so_prim, so_sl, so_and, so_or, so_not, so_ife, so_one, so_tru, so_chain, so_call, so_lc, so_pop, snap_d, snap_l, Option.isSome_some, List.getD_cons_zero, List.getD_cons_succ, List.set_cons_zero, List.set_cons_succ, List.length_cons, List.length_nil, Nat.reduceAdd, Nat.reduceSub, Nat.reduceLT, Nat.reduceLeDiff, List.map_cons, List.map_nil, List.replicate, List.cons_append, List.nil_append, List.append_nil, outsOf, wipeE, backE, ownIx, putOuts, Option.toList, It.lk, Es.lk, items_l, items_t, slR_e, sl_t, sl_l, if_true, if_false, Bool.false_eq_true, Bool.true_and, Bool.and_true, Bool.not_true, Bool.not_false, Option.map_some, decide_true, decide_false, q_tup, q_lst, p_add, p_sub, p_mul, p_mod, p_div, p_pow18, p_lt, p_le, p_gt, p_ge, p_eq, p_ne, p_ixL, p_ixT, p_neg, p_lenL, p_lenT, p_int, p_intB, p_abs, p_min, p_max, p_tupL, p_tupT, p_listL, p_listT, p_dic, e_fld, e_prop, e_oeq, so_fld, so_prop, so_oeq, mk_nx, f_nil, f_cons]
    have := rng_to 8 (by decide)
    rw [show ((8 : Nat) : Int) = 8 from rfl] at this
    simp only [this, wp_ok, wp_ex, wp_bind, bnd_ok, bnd_ex, bl_bind, boolR_b, cond_t, cond_f, e_cst, e_var, varR_d, someR_s, e_prim, e_sl, e_slv, e_and, e_or, e_one, e_not, e_tru, e_ife, e_chain, e_call, e_lc, e_pop, s_nil, s_cons, o_no, o_yes, intR_i, pt_no, pt_yes, es_nil, es_val, es_vw, a_nil, a_val, a_vw, it_seq, it_rng, it_enum, opd_n, opd_s, t_set, t_unp, t_par, t_setIx, ownR_l, valR_d, t_aug, t_exp, t_app, frzR_s, t_frz, setS_lt, t_ife, t_ret, t_mov, t_retN, t_brk, t_cnt, t_pass, t_rais, t_tr, wp_try, h_nil, h_cons, then_nx, then_rt, then_bk, then_ct, b_nil, b_cons, after_nx, after_ct, after_bk, after_rt, after_no, after_so, fin_qn, fin_qr, so_vw, so_cst, so_var, so_glob, so_prim, so_sl, so_and, so_or, so_not, so_ife, so_one, so_tru, so_chain, so_call, so_lc, so_pop, snap_d, snap_l, Option.isSome_some, List.getD_cons_zero, List.getD_cons_succ, List.set_cons_zero, List.set_cons_succ, List.length_cons, List.length_nil, Nat.reduceAdd, Nat.reduceSub, Nat.reduceLT, Nat.reduceLeDiff, List.map_cons, List.map_nil, List.replicate, List.cons_append, List.nil_append, List.append_nil, outsOf, wipeE, backE, ownIx, putOuts, Option.toList, It.lk, Es.lk, items_l, items_t, slR_e, sl_t, sl_l, if_true, if_false, Bool.false_eq_true, Bool.true_and, Bool.and_true, Bool.not_true, Bool.not_false, Option.map_some, decide_true, decide_false, q_tup, q_lst, p_add, p_sub, p_mul, p_mod, p_div, p_pow18, p_lt, p_le, p_gt, p_ge, p_eq, p_ne, p_ixL, p_ixT, p_neg, p_lenL, p_lenT, p_int, p_intB, p_abs, p_min, p_max, p_tupL, p_tupT, p_listL, p_listT, p_dic, e_fld, e_prop, e_oeq, so_fld, so_prop, so_oeq, mk_nx, f_nil, f_cons]
  · exact ⟨ds0, [], _, _, _, _, _, hd0, (fun m hm => by simp at hm), Nat.le_refl _, rfl⟩
  · rintro env2 ⟨d2, ms, x3, x4, x5, x6, x7, h2, hm, hl, rfl⟩
    simp only [wp_ok, wp_ex, wp_bind, bnd_ok, bnd_ex, bl_bind, boolR_b, cond_t, cond_f, e_cst, e_var, varR_d, someR_s, e_prim, e_sl, e_slv, e_and, e_or, e_one, e_not, e_tru, e_ife, e_chain, e_call, e_lc, e_pop, s_nil, s_cons, o_no, o_yes, intR_i, pt_no, pt_yes, es_nil, es_val, es_vw, a_nil, a_val, a_vw, it_seq, it_rng, it_enum, opd_n, opd_s, t_set, t_unp, t_par, t_setIx, ownR_l, valR_d, t_aug, t_exp, t_app, frzR_s, t_frz, setS_lt, t_ife, t_ret, t_mov, t_retN, t_brk, t_cnt, t_pass, t_rais, t_tr, wp_try, h_nil, h_cons, then_nx, then_rt, then_bk, then_ct, b_nil, b_cons, after_nx, after_ct, after_bk, after_rt, after_no, after_so, fin_qn, fin_qr, so_vw, so_cst, so_var, so_glob, so_prim, so_sl, so_and, so_or, so_not, so_ife, so_one, so_tru, so_chain, so_call, so_lc, so_pop, snap_d, snap_l, Option.isSome_some, List.getD_cons_zero, List.getD_cons_succ, List.set_cons_zero, List.set_cons_succ, List.length_cons, List.length_nil, Nat.reduceAdd, Nat.reduceSub, Nat.reduceLT, Nat.reduceLeDiff, List.map_cons, List.map_nil, List.replicate, List.cons_append, List.nil_append, List.append_nil, outsOf, wipeE, backE, ownIx, putOuts, Option.toList, It.lk, Es.lk, items_l, items_t, slR_e, sl_t, sl_l, if_true, if_false, Bool.false_eq_true, Bool.true_and, Bool.and_true, Bool.not_true, Bool.not_false, Option.map_some, decide_true, decide_false, q_tup, q_lst, p_add, p_sub, p_mul, p_mod, p_div, p_pow18, p_lt, p_le, p_gt, p_ge, p_eq, p_ne, p_ixL, p_ixT, p_neg, p_lenL, p_lenT, p_int, p_intB, p_abs, p_min, p_max, p_tupL, p_tupT, p_listL, p_listT, p_dic, e_fld, e_prop, e_oeq, so_fld, so_prop, so_oeq, mk_nx, f_nil, f_cons]
  · rintro n i env2 hd ⟨d2, ms, x3, x4, x5, x6, x7, h2, hm, hl, rfl⟩
    have hn := (rng_at hd).1
    rw [turn_n _ _ _ _ _ _ (by show 3 < 8; decide)]
    simp only [b_law_1, wp_ok, wp_ex, wp_bind, bnd_ok, bnd_ex, bl_bind, boolR_b, cond_t, cond_f, e_cst, e_var, varR_d, someR_s, e_prim, e_sl, e_slv, e_and, e_or, e_one, e_not, e_tru, e_ife, e_chain, e_call, e_lc, e_pop, s_nil, s_cons, o_no, o_yes, intR_i, pt_no, pt_yes, es_nil, es_val, es_vw, a_nil, a_val, a_vw, it_seq, it_rng, it_enum, opd_n, opd_s, t_set, t_unp, t_par, t_setIx, ownR_l, valR_d, t_aug, t_exp, t_app, frzR_s, t_frz, setS_lt, t_ife, t_ret, t_mov, t_retN, t_brk, t_cnt, t_pass, t_rais, t_tr, wp_try, h_nil, h_cons, then_nx, then_rt, then_bk, then_ct, b_nil, b_cons, after_nx, after_ct, after_bk, after_rt, after_no, after_so, fin_qn, fin_qr, so_vw, so_cst, so_var, so_glob, so_prim, so_sl, so_and, so_or, so_not, so_ife, so_one, so_tru, so_chain, so_call, so_lc, so_pop, snap_d, snap_l, Option.isSome_some, List.getD_cons_zero, List.getD_cons_succ, List.set_cons_zero, List.set_cons_succ, List.length_cons, List.length_nil, Nat.reduceAdd, Nat.reduceSub, Nat.reduceLT, Nat.reduceLeDiff, List.map_cons, List.map_nil, List.replicate, List.cons_append, List.nil_append, List.append_nil, outsOf, wipeE, backE, ownIx, putOuts, Option.toList, It.lk, Es.lk, items_l, items_t, slR_e, sl_t, sl_l, if_true, if_false, Bool.false_eq_true, Bool.true_and, Bool.and_true, Bool.not_true, Bool.not_false, Option.map_some, decide_true, decide_false, q_tup, q_lst, p_add, p_sub, p_mul, p_mod, p_div, p_pow18, p_lt, p_le, p_gt, p_ge, p_eq, p_ne, p_ixL, p_ixT, p_neg, p_lenL, p_lenT, p_int, p_intB, p_abs, p_min, p_max, p_tupL, p_tupT, p_listL, p_listT, p_dic, e_fld, e_prop, e_oeq, so_fld, so_prop, so_oeq, mk_nx, f_nil, f_cons]
    refine w_thing (k := 5) h2 fun d d3 ht h3 => ?_
    simp only [wp_ok, wp_ex, wp_bind, bnd_ok, bnd_ex, bl_bind, boolR_b, cond_t, cond_f, e_cst, e_var, varR_d, someR_s, e_prim, e_sl, e_slv, e_and, e_or, e_one, e_not, e_tru, e_ife, e_chain, e_call, e_lc, e_pop, s_nil, s_cons, o_no, o_yes, intR_i, pt_no, pt_yes, es_nil, es_val, es_vw, a_nil, a_val, a_vw, it_seq, it_rng, it_enum, opd_n, opd_s, t_set, t_unp, t_par, t_setIx, ownR_l, valR_d, t_aug, t_exp, t_app, frzR_s, t_frz, setS_lt, t_ife, t_ret, t_mov, t_retN, t_brk, t_cnt, t_pass, t_rais, t_tr, wp_try, h_nil, h_cons, then_nx, then_rt, then_bk, then_ct, b_nil, b_cons, after_nx, after_ct, after_bk, after_rt, after_no, after_so, fin_qn, fin_qr, so_vw, so_cst, so_var, so_glob, so_prim, so_sl, so_and, so_or, so_not, so_ife, so_one, so_tru, so_chain, so_call, so_lc, so_pop, snap_d, snap_l, Option.isSome_some, List.getD_cons_zero, List.getD_cons_succ, List.set_cons_zero, List.set_cons_succ, List.length_cons, List.length_nil, Nat.reduceAdd, Nat.reduceSub, Nat.reduceLT, Nat.reduceLeDiff, List.map_cons, List.map_nil, List.replicate, List.cons_append, List.nil_append, List.append_nil, outsOf, wipeE, backE, ownIx, putOuts, Option.toList, It.lk, Es.lk, items_l, items_t, slR_e, sl_t, sl_l, if_true, if_false, Bool.false_eq_true, Bool.true_and, Bool.and_true, Bool.not_true, Bool.not_false, Option.map_some, decide_true, decide_false, q_tup, q_lst, p_add, p_sub, p_mul, p_mod, p_div, p_pow18, p_lt, p_le, p_gt, p_ge, p_eq, p_ne, p_ixL, p_ixT, p_neg, p_lenL, p_lenT, p_int, p_intB, p_abs, p_min, p_max, p_tupL, p_tupT, p_listL, p_listT, p_dic, e_fld, e_prop, e_oeq, so_fld, so_prop, so_oeq, mk_nx, f_nil, f_cons]
    cases hb : machB d with
    | false =>
      refine wp_pure (told_no 2 ht hb) rfl rfl ?_
      simp only [wp_ok, wp_ex, wp_bind, bnd_ok, bnd_ex, bl_bind, boolR_b, cond_t, cond_f, e_cst, e_var, varR_d, someR_s, e_prim, e_sl, e_slv, e_and, e_or, e_one, e_not, e_tru, e_ife, e_chain, e_call, e_lc, e_pop, s_nil, s_cons, o_no, o_yes, intR_i, pt_no, pt_yes, es_nil, es_val, es_vw, a_nil, a_val, a_vw, it_seq, it_rng, it_enum, opd_n, opd_s, t_set, t_unp, t_par, t_setIx, ownR_l, valR_d, t_aug, t_exp, t_app, frzR_s, t_frz, setS_lt, t_ife, t_ret, t_mov, t_retN, t_brk, t_cnt, t_pass, t_rais, t_tr, wp_try, h_nil, h_cons, then_nx, then_rt, then_bk, then_ct, b_nil, b_cons, after_nx, after_ct, after_bk, after_rt, after_no, after_so, fin_qn, fin_qr, so_vw, so_cst, so_var, so_glob, so_prim, so_sl, so_and, so_or, so_not, so_ife, so_one, so_tru, so_chain, so_call, so_lc, so_pop, snap_d, snap_l, Option.isSome_some, List.getD_cons_zero, List.getD_cons_succ, List.set_cons_zero, List.set_cons_succ, List.length_cons, List.length_nil, Nat.reduceAdd, Nat.reduceSub, Nat.reduceLT, Nat.reduceLeDiff, List.map_cons, List.map_nil, List.replicate, List.cons_append, List.nil_append, List.append_nil, outsOf, wipeE, backE, ownIx, putOuts, Option.toList, It.lk, Es.lk, items_l, items_t, slR_e, sl_t, sl_l, if_true, if_false, Bool.false_eq_true, Bool.true_and, Bool.and_true, Bool.not_true, Bool.not_false, Option.map_some, decide_true, decide_false, q_tup, q_lst, p_add, p_sub, p_mul, p_mod, p_div, p_pow18, p_lt, p_le, p_gt, p_ge, p_eq, p_ne, p_ixL, p_ixT, p_neg, p_lenL, p_lenT, p_int, p_intB, p_abs, p_min, p_max, p_tupL, p_tupT, p_listL, p_listT, p_dic, e_fld, e_prop, e_oeq, so_fld, so_prop, so_oeq, mk_nx, f_nil, f_cons]
      refine wp_pure (law_is_machine_ok 6 ht) rfl rfl ?_
      simp only [hb, at_bad, o_bad, o_bl, bb1, bb2, bb3, bb4, bb5, bb6, bb7, bb8, wp_ok, wp_ex, wp_bind, bnd_ok, bnd_ex, bl_bind, boolR_b, cond_t, cond_f, e_cst, e_var, varR_d, someR_s, e_prim, e_sl, e_slv, e_and, e_or, e_one, e_not, e_tru, e_ife, e_chain, e_call, e_lc, e_pop, s_nil, s_cons, o_no, o_yes, intR_i, pt_no, pt_yes, es_nil, es_val, es_vw, a_nil, a_val, a_vw, it_seq, it_rng, it_enum, opd_n, opd_s, t_set, t_unp, t_par, t_setIx, ownR_l, valR_d, t_aug, t_exp, t_app, frzR_s, t_frz, setS_lt, t_ife, t_ret, t_mov, t_retN, t_brk, t_cnt, t_pass, t_rais, t_tr, wp_try, h_nil, h_cons, then_nx, then_rt, then_bk, then_ct, b_nil, b_cons, after_nx, after_ct, after_bk, after_rt, after_no, after_so, fin_qn, fin_qr, so_vw, so_cst, so_var, so_glob, so_prim, so_sl, so_and, so_or, so_not, so_ife, so_one, so_tru, so_chain, so_call, so_lc, so_pop, snap_d, snap_l, Option.isSome_some, List.getD_cons_zero, List.getD_cons_succ, List.set_cons_zero, List.set_cons_succ, List.length_cons, List.length_nil, Nat.reduceAdd, Nat.reduceSub, Nat.reduceLT, Nat.reduceLeDiff, List.map_cons, List.map_nil, List.replicate, List.cons_append, List.nil_append, List.append_nil, outsOf, wipeE, backE, ownIx, putOuts, Option.toList, It.lk, Es.lk, items_l, items_t, slR_e, sl_t, sl_l, if_true, if_false, Bool.false_eq_true, Bool.true_and, Bool.and_true, Bool.not_true, Bool.not_false, Option.map_some, decide_true, decide_false, q_tup, q_lst, p_add, p_sub, p_mul, p_mod, p_div, p_pow18, p_lt, p_le, p_gt, p_ge, p_eq, p_ne, p_ixL, p_ixT, p_neg, p_lenL, p_lenT, p_int, p_intB, p_abs, p_min, p_max, p_tupL, p_tupT, p_listL, p_listT, p_dic, e_fld, e_prop, e_oeq, so_fld, so_prop, so_oeq, mk_nx, f_nil, f_cons]
      exact ⟨d3, ms, _, _, _, _, _, h3, hm, by omega, rfl⟩
    | true =>
      obtain ⟨ds, rfl, ho, h6⟩ := machB_tup hb
      refine wp_pure (told_ok 2 ht hb rfl) rfl rfl ?_
      simp only [wp_ok, wp_ex, wp_bind, bnd_ok, bnd_ex, bl_bind, boolR_b, cond_t, cond_f, e_cst, e_var, varR_d, someR_s, e_prim, e_sl, e_slv, e_and, e_or, e_one, e_not, e_tru, e_ife, e_chain, e_call, e_lc, e_pop, s_nil, s_cons, o_no, o_yes, intR_i, pt_no, pt_yes, es_nil, es_val, es_vw, a_nil, a_val, a_vw, it_seq, it_rng, it_enum, opd_n, opd_s, t_set, t_unp, t_par, t_setIx, ownR_l, valR_d, t_aug, t_exp, t_app, frzR_s, t_frz, setS_lt, t_ife, t_ret, t_mov, t_retN, t_brk, t_cnt, t_pass, t_rais, t_tr, wp_try, h_nil, h_cons, then_nx, then_rt, then_bk, then_ct, b_nil, b_cons, after_nx, after_ct, after_bk, after_rt, after_no, after_so, fin_qn, fin_qr, so_vw, so_cst, so_var, so_glob, so_prim, so_sl, so_and, so_or, so_not, so_ife, so_one, so_tru, so_chain, so_call, so_lc, so_pop, snap_d, snap_l, Option.isSome_some, List.getD_cons_zero, List.getD_cons_succ, List.set_cons_zero, List.set_cons_succ, List.length_cons, List.length_nil, Nat.reduceAdd, Nat.reduceSub, Nat.reduceLT, Nat.reduceLeDiff, List.map_cons, List.map_nil, List.replicate, List.cons_append, List.nil_append, List.append_nil, outsOf, wipeE, backE, ownIx, putOuts, Option.toList, It.lk, Es.lk, items_l, items_t, slR_e, sl_t, sl_l, if_true, if_false, Bool.false_eq_true, Bool.true_and, Bool.and_true, Bool.not_true, Bool.not_false, Option.map_some, decide_true, decide_false, q_tup, q_lst, p_add, p_sub, p_mul, p_mod, p_div, p_pow18, p_lt, p_le, p_gt, p_ge, p_eq, p_ne, p_ixL, p_ixT, p_neg, p_lenL, p_lenT, p_int, p_intB, p_abs, p_min, p_max, p_tupL, p_tupT, p_listL, p_listT, p_dic, e_fld, e_prop, e_oeq, so_fld, so_prop, so_oeq, mk_nx, f_nil, f_cons]
      refine wp_pure (law_is_machine_ok 6 ht) rfl rfl ?_
      have pb : ∀ env, propK ⟨P.call 7, P.io, P.glob⟩ 2 3 (mach ds) env = .ok (.d (.tup ds)) env := fun env => prop_ok rfl (belts_ok 5 ds)
      have o1 := fun (ne : Bool) env => o_self (C := ⟨P.call 7, P.io, P.glob⟩) (ne := ne) (env := env) (sh_okI ho) (by decide) rfl
      have o2 := fun (ne : Bool) (i : Int) env => o_self (C := ⟨P.call 7, P.io, P.glob⟩) (ne := ne) (env := env) (sh_int i) (by decide) rfl
      have o3 := fun (ne : Bool) env => o_self (C := ⟨P.call 7, P.io, P.glob⟩) (ne := ne) (env := env) (sh_nons (ds := ds)) (by decide) rfl
      simp only [hb, at_m0, at_m1, o_mach, o_bl, pb, o1, fld_s, sum_m ho, o2, bb1, bb2, bb3, bb4, bb5, bb6, bb7, bb8, wp_ok, wp_ex, wp_bind, bnd_ok, bnd_ex, bl_bind, boolR_b, cond_t, cond_f, e_cst, e_var, varR_d, someR_s, e_prim, e_sl, e_slv, e_and, e_or, e_one, e_not, e_tru, e_ife, e_chain, e_call, e_lc, e_pop, s_nil, s_cons, o_no, o_yes, intR_i, pt_no, pt_yes, es_nil, es_val, es_vw, a_nil, a_val, a_vw, it_seq, it_rng, it_enum, opd_n, opd_s, t_set, t_unp, t_par, t_setIx, ownR_l, valR_d, t_aug, t_exp, t_app, frzR_s, t_frz, setS_lt, t_ife, t_ret, t_mov, t_retN, t_brk, t_cnt, t_pass, t_rais, t_tr, wp_try, h_nil, h_cons, then_nx, then_rt, then_bk, then_ct, b_nil, b_cons, after_nx, after_ct, after_bk, after_rt, after_no, after_so, fin_qn, fin_qr, so_vw, so_cst, so_var, so_glob, so_prim, so_sl, so_and, so_or, so_not, so_ife, so_one, so_tru, so_chain, so_call, so_lc, so_pop, snap_d, snap_l, Option.isSome_some, List.getD_cons_zero, List.getD_cons_succ, List.set_cons_zero, List.set_cons_succ, List.length_cons, List.length_nil, Nat.reduceAdd, Nat.reduceSub, Nat.reduceLT, Nat.reduceLeDiff, List.map_cons, List.map_nil, List.replicate, List.cons_append, List.nil_append, List.append_nil, outsOf, wipeE, backE, ownIx, putOuts, Option.toList, It.lk, Es.lk, items_l, items_t, slR_e, sl_t, sl_l, if_true, if_false, Bool.false_eq_true, Bool.true_and, Bool.and_true, Bool.not_true, Bool.not_false, Option.map_some, decide_true, decide_false, q_tup, q_lst, p_add, p_sub, p_mul, p_mod, p_div, p_pow18, p_lt, p_le, p_gt, p_ge, p_eq, p_ne, p_ixL, p_ixT, p_neg, p_lenL, p_lenT, p_int, p_intB, p_abs, p_min, p_max, p_tupL, p_tupT, p_listL, p_listT, p_dic, e_fld, e_prop, e_oeq, so_fld, so_prop, so_oeq, mk_nx, f_nil, f_cons]
      refine wp_pure (empty_ok 4 ho h6) rfl rfl ?_
      simp only [wp_ok, wp_ex, wp_bind, bnd_ok, bnd_ex, bl_bind, boolR_b, cond_t, cond_f, e_cst, e_var, varR_d, someR_s, e_prim, e_sl, e_slv, e_and, e_or, e_one, e_not, e_tru, e_ife, e_chain, e_call, e_lc, e_pop, s_nil, s_cons, o_no, o_yes, intR_i, pt_no, pt_yes, es_nil, es_val, es_vw, a_nil, a_val, a_vw, it_seq, it_rng, it_enum, opd_n, opd_s, t_set, t_unp, t_par, t_setIx, ownR_l, valR_d, t_aug, t_exp, t_app, frzR_s, t_frz, setS_lt, t_ife, t_ret, t_mov, t_retN, t_brk, t_cnt, t_pass, t_rais, t_tr, wp_try, h_nil, h_cons, then_nx, then_rt, then_bk, then_ct, b_nil, b_cons, after_nx, after_ct, after_bk, after_rt, after_no, after_so, fin_qn, fin_qr, so_vw, so_cst, so_var, so_glob, so_prim, so_sl, so_and, so_or, so_not, so_ife, so_one, so_tru, so_chain, so_call, so_lc, so_pop, snap_d, snap_l, Option.isSome_some, List.getD_cons_zero, List.getD_cons_succ, List.set_cons_zero, List.set_cons_succ, List.length_cons, List.length_nil, Nat.reduceAdd, Nat.reduceSub, Nat.reduceLT, Nat.reduceLeDiff, List.map_cons, List.map_nil, List.replicate, List.cons_append, List.nil_append, List.append_nil, outsOf, wipeE, backE, ownIx, putOuts, Option.toList, It.lk, Es.lk, items_l, items_t, slR_e, sl_t, sl_l, if_true, if_false, Bool.false_eq_true, Bool.true_and, Bool.and_true, Bool.not_true, Bool.not_false, Option.map_some, decide_true, decide_false, q_tup, q_lst, p_add, p_sub, p_mul, p_mod, p_div, p_pow18, p_lt, p_le, p_gt, p_ge, p_eq, p_ne, p_ixL, p_ixT, p_neg, p_lenL, p_lenT, p_int, p_intB, p_abs, p_min, p_max, p_tupL, p_tupT, p_listL, p_listT, p_dic, e_fld, e_prop, e_oeq, so_fld, so_prop, so_oeq, mk_nx, f_nil, f_cons]
      refine wp_pure (law_empty_ok 6 ho h6) rfl rfl ?_
      simp only [o3, bb1, bb2, bb3, bb4, bb5, bb6, bb7, bb8, wp_ok, wp_ex, wp_bind, bnd_ok, bnd_ex, bl_bind, boolR_b, cond_t, cond_f, e_cst, e_var, varR_d, someR_s, e_prim, e_sl, e_slv, e_and, e_or, e_one, e_not, e_tru, e_ife, e_chain, e_call, e_lc, e_pop, s_nil, s_cons, o_no, o_yes, intR_i, pt_no, pt_yes, es_nil, es_val, es_vw, a_nil, a_val, a_vw, it_seq, it_rng, it_enum, opd_n, opd_s, t_set, t_unp, t_par, t_setIx, ownR_l, valR_d, t_aug, t_exp, t_app, frzR_s, t_frz, setS_lt, t_ife, t_ret, t_mov, t_retN, t_brk, t_cnt, t_pass, t_rais, t_tr, wp_try, h_nil, h_cons, then_nx, then_rt, then_bk, then_ct, b_nil, b_cons, after_nx, after_ct, after_bk, after_rt, after_no, after_so, fin_qn, fin_qr, so_vw, so_cst, so_var, so_glob, so_prim, so_sl, so_and, so_or, so_not, so_ife, so_one, so_tru, so_chain, so_call, so_lc, so_pop, snap_d, snap_l, Option.isSome_some, List.getD_cons_zero, List.getD_cons_succ, List.set_cons_zero, List.set_cons_succ, List.length_cons, List.length_nil, Nat.reduceAdd, Nat.reduceSub, Nat.reduceLT, Nat.reduceLeDiff, List.map_cons, List.map_nil, List.replicate, List.cons_append, List.nil_append, List.append_nil, outsOf, wipeE, backE, ownIx, putOuts, Option.toList, It.lk, Es.lk, items_l, items_t, slR_e, sl_t, sl_l, if_true, if_false, Bool.false_eq_true, Bool.true_and, Bool.and_true, Bool.not_true, Bool.not_false, Option.map_some, decide_true, decide_false, q_tup, q_lst, p_add, p_sub, p_mul, p_mod, p_div, p_pow18, p_lt, p_le, p_gt, p_ge, p_eq, p_ne, p_ixL, p_ixT, p_neg, p_lenL, p_lenT, p_int, p_intB, p_abs, p_min, p_max, p_tupL, p_tupT, p_listL, p_listT, p_dic, e_fld, e_prop, e_oeq, so_fld, so_prop, so_oeq, mk_nx, f_nil, f_cons]
      refine wp_pure (machine_ok 3 ht hb rfl) rfl rfl ?_
      have o4 : ∀ env, oeqK ⟨P.call 7, P.io, P.glob⟩ 2 4 false (mach ds) (mach ds) env = .ok (.d (.bl (true != false))) env := fun env => oeq_own rfl (.inl rfl) (mach_eq 5 (eq_selfF (sh_okI ho) (by decide)))
      have o5 : ∀ env, oeqK ⟨P.call 7, P.io, P.glob⟩ 2 4 false (mach ds) (.tup ds) env = .ok (.d (.bl (false != false))) env := fun env => oeq_own rfl (.inr rfl) (mach_ne (a := ds) 5 (d := .tup ds) rfl)
      have o6 : ∀ env, oeqK ⟨P.call 7, P.io, P.glob⟩ 2 4 false (mach ds) (.str "machine") env = .ok (.d (.bl (false != false))) env := fun env => oeq_own rfl (.inr rfl) (mach_ne (a := ds) 5 (d := .str "machine") rfl)
      have o7 : ∀ env, oeqK ⟨P.call 7, P.io, P.glob⟩ 2 4 false (.tup ds) (mach ds) env = .ok (.d (.bl (false != false))) env := fun env => oeq_back rfl rfl (mach_ne (a := ds) 5 (d := .tup ds) rfl)
      simp only [o4, o5, o6, o7, bb1, bb2, bb3, bb4, bb5, bb6, bb7, bb8, wp_ok, wp_ex, wp_bind, bnd_ok, bnd_ex, bl_bind, boolR_b, cond_t, cond_f, e_cst, e_var, varR_d, someR_s, e_prim, e_sl, e_slv, e_and, e_or, e_one, e_not, e_tru, e_ife, e_chain, e_call, e_lc, e_pop, s_nil, s_cons, o_no, o_yes, intR_i, pt_no, pt_yes, es_nil, es_val, es_vw, a_nil, a_val, a_vw, it_seq, it_rng, it_enum, opd_n, opd_s, t_set, t_unp, t_par, t_setIx, ownR_l, valR_d, t_aug, t_exp, t_app, frzR_s, t_frz, setS_lt, t_ife, t_ret, t_mov, t_retN, t_brk, t_cnt, t_pass, t_rais, t_tr, wp_try, h_nil, h_cons, then_nx, then_rt, then_bk, then_ct, b_nil, b_cons, after_nx, after_ct, after_bk, after_rt, after_no, after_so, fin_qn, fin_qr, so_vw, so_cst, so_var, so_glob, so_prim, so_sl, so_and, so_or, so_not, so_ife, so_one, so_tru, so_chain, so_call, so_lc, so_pop, snap_d, snap_l, Option.isSome_some, List.getD_cons_zero, List.getD_cons_succ, List.set_cons_zero, List.set_cons_succ, List.length_cons, List.length_nil, Nat.reduceAdd, Nat.reduceSub, Nat.reduceLT, Nat.reduceLeDiff, List.map_cons, List.map_nil, List.replicate, List.cons_append, List.nil_append, List.append_nil, outsOf, wipeE, backE, ownIx, putOuts, Option.toList, It.lk, Es.lk, items_l, items_t, slR_e, sl_t, sl_l, if_true, if_false, Bool.false_eq_true, Bool.true_and, Bool.and_true, Bool.not_true, Bool.not_false, Option.map_some, decide_true, decide_false, q_tup, q_lst, p_add, p_sub, p_mul, p_mod, p_div, p_pow18, p_lt, p_le, p_gt, p_ge, p_eq, p_ne, p_ixL, p_ixT, p_neg, p_lenL, p_lenT, p_int, p_intB, p_abs, p_min, p_max, p_tupL, p_tupT, p_listL, p_listT, p_dic, e_fld, e_prop, e_oeq, so_fld, so_prop, so_oeq, mk_nx, f_nil, f_cons]
      refine wp_fo (ds := ms) (fun n env => ∃ (x7 : Option T), env = [some (.d (.lst (ns.map .int))), some (.l d3), none, some (.d i), some (.d (.tup ds)), some (.l [.str "machine", mach ds]), some (.d (mach ds)), x7]) (env0 := [some (.d (.lst (ns.map .int))), some (.l d3), some (.l ms), some (.d i), some (.d (.tup ds)), some (.l [.str "machine", mach ds]), some (.d (mach ds)), x7]) rfl (by simp only [wp_ok, wp_ex, wp_bind, bnd_ok, bnd_ex, bl_bind, boolR_b, cond_t, cond_f, e_cst, e_var, varR_d, someR_s, e_prim, e_sl, e_slv, e_and, e_or, e_one, e_not, e_tru, e_ife, e_chain, e_call, e_lc, e_pop, s_nil, s_cons, o_no, o_yes, intR_i, pt_no, pt_yes, es_nil, es_val, es_vw, a_nil, a_val, a_vw, it_seq, it_rng, it_enum, opd_n, opd_s, t_set, t_unp, t_par, t_setIx, ownR_l, valR_d, t_aug, t_exp, t_app, frzR_s, t_frz, setS_lt, t_ife, t_ret, t_mov, t_retN, t_brk, t_cnt, t_pass, t_rais, t_tr, wp_try, h_nil, h_cons, then_nx, then_rt, then_bk, then_ct, b_nil, b_cons, after_nx, after_ct, after_bk, after_rt, after_no, after_so, fin_qn, fin_qr, so_vw, so_cst, so_var, so_glob, so_prim, so_sl, so_and, so_or, so_not, so_ife, so_one, so_tru, so_chain, so_call, so_lc, so_pop, snap_d, snap_l, Option.isSome_some, List.getD_cons_zero, List.getD_cons_succ, List.set_cons_zero, List.set_cons_succ, List.length_cons, List.length_nil, Nat.reduceAdd, Nat.reduceSub, Nat.reduceLT, Nat.reduceLeDiff, List.map_cons, List.map_nil, List.replicate, List.cons_append, List.nil_append, List.append_nil, outsOf, wipeE, backE, ownIx, putOuts, Option.toList, It.lk, Es.lk, items_l, items_t, slR_e, sl_t, sl_l, if_true, if_false, Bool.false_eq_true, Bool.true_and, Bool.and_true, Bool.not_true, Bool.not_false, Option.map_some, decide_true, decide_false, q_tup, q_lst, p_add, p_sub, p_mul, p_mod, p_div, p_pow18, p_lt, p_le, p_gt, p_ge, p_eq, p_ne, p_ixL, p_ixT, p_neg, p_lenL, p_lenT, p_int, p_intB, p_abs, p_min, p_max, p_tupL, p_tupT, p_listL, p_listT, p_dic, e_fld, e_prop, e_oeq, so_fld, so_prop, so_oeq, mk_nx, f_nil, f_cons]) ⟨_, rfl⟩ ?_ ?_
      · rintro env3 ⟨y7, rfl⟩
        simp only [wp_ok, wp_ex, wp_bind, bnd_ok, bnd_ex, bl_bind, boolR_b, cond_t, cond_f, e_cst, e_var, varR_d, someR_s, e_prim, e_sl, e_slv, e_and, e_or, e_one, e_not, e_tru, e_ife, e_chain, e_call, e_lc, e_pop, s_nil, s_cons, o_no, o_yes, intR_i, pt_no, pt_yes, es_nil, es_val, es_vw, a_nil, a_val, a_vw, it_seq, it_rng, it_enum, opd_n, opd_s, t_set, t_unp, t_par, t_setIx, ownR_l, valR_d, t_aug, t_exp, t_app, frzR_s, t_frz, setS_lt, t_ife, t_ret, t_mov, t_retN, t_brk, t_cnt, t_pass, t_rais, t_tr, wp_try, h_nil, h_cons, then_nx, then_rt, then_bk, then_ct, b_nil, b_cons, after_nx, after_ct, after_bk, after_rt, after_no, after_so, fin_qn, fin_qr, so_vw, so_cst, so_var, so_glob, so_prim, so_sl, so_and, so_or, so_not, so_ife, so_one, so_tru, so_chain, so_call, so_lc, so_pop, snap_d, snap_l, Option.isSome_some, List.getD_cons_zero, List.getD_cons_succ, List.set_cons_zero, List.set_cons_succ, List.length_cons, List.length_nil, Nat.reduceAdd, Nat.reduceSub, Nat.reduceLT, Nat.reduceLeDiff, List.map_cons, List.map_nil, List.replicate, List.cons_append, List.nil_append, List.append_nil, outsOf, wipeE, backE, ownIx, putOuts, Option.toList, It.lk, Es.lk, items_l, items_t, slR_e, sl_t, sl_l, if_true, if_false, Bool.false_eq_true, Bool.true_and, Bool.and_true, Bool.not_true, Bool.not_false, Option.map_some, decide_true, decide_false, q_tup, q_lst, p_add, p_sub, p_mul, p_mod, p_div, p_pow18, p_lt, p_le, p_gt, p_ge, p_eq, p_ne, p_ixL, p_ixT, p_neg, p_lenL, p_lenT, p_int, p_intB, p_abs, p_min, p_max, p_tupL, p_tupT, p_listL, p_listT, p_dic, e_fld, e_prop, e_oeq, so_fld, so_prop, so_oeq, mk_nx, f_nil, f_cons]
        refine wp_app (ds := ms) (by omega) rfl ?_
        simp only [wp_ok, wp_ex, wp_bind, bnd_ok, bnd_ex, bl_bind, boolR_b, cond_t, cond_f, e_cst, e_var, varR_d, someR_s, e_prim, e_sl, e_slv, e_and, e_or, e_one, e_not, e_tru, e_ife, e_chain, e_call, e_lc, e_pop, s_nil, s_cons, o_no, o_yes, intR_i, pt_no, pt_yes, es_nil, es_val, es_vw, a_nil, a_val, a_vw, it_seq, it_rng, it_enum, opd_n, opd_s, t_set, t_unp, t_par, t_setIx, ownR_l, valR_d, t_aug, t_exp, t_app, frzR_s, t_frz, setS_lt, t_ife, t_ret, t_mov, t_retN, t_brk, t_cnt, t_pass, t_rais, t_tr, wp_try, h_nil, h_cons, then_nx, then_rt, then_bk, then_ct, b_nil, b_cons, after_nx, after_ct, after_bk, after_rt, after_no, after_so, fin_qn, fin_qr, so_vw, so_cst, so_var, so_glob, so_prim, so_sl, so_and, so_or, so_not, so_ife, so_one, so_tru, so_chain, so_call, so_lc, so_pop, snap_d, snap_l, Option.isSome_some, List.getD_cons_zero, List.getD_cons_succ, List.set_cons_zero, List.set_cons_succ, List.length_cons, List.length_nil, Nat.reduceAdd, Nat.reduceSub, Nat.reduceLT, Nat.reduceLeDiff, List.map_cons, List.map_nil, List.replicate, List.cons_append, List.nil_append, List.append_nil, outsOf, wipeE, backE, ownIx, putOuts, Option.toList, It.lk, Es.lk, items_l, items_t, slR_e, sl_t, sl_l, if_true, if_false, Bool.false_eq_true, Bool.true_and, Bool.and_true, Bool.not_true, Bool.not_false, Option.map_some, decide_true, decide_false, q_tup, q_lst, p_add, p_sub, p_mul, p_mod, p_div, p_pow18, p_lt, p_le, p_gt, p_ge, p_eq, p_ne, p_ixL, p_ixT, p_neg, p_lenL, p_lenT, p_int, p_intB, p_abs, p_min, p_max, p_tupL, p_tupT, p_listL, p_listT, p_dic, e_fld, e_prop, e_oeq, so_fld, so_prop, so_oeq, mk_nx, f_nil, f_cons]
        refine ⟨d3, ms ++ [mach ds], _, _, _, _, _, h3, fun m hm2 => ?_, by rw [List.length_append, List.length_singleton]; omega, rfl⟩
        rcases List.mem_append.mp hm2 with z | z
        · exact hm m z
        · exact ⟨ds, List.mem_singleton.mp z, ho⟩
      · rintro j m env3 hj ⟨y7, rfl⟩
        obtain ⟨bs, rfl, hbs⟩ := hm m (List.mem_of_getElem? hj)
        obtain ⟨r, hr⟩ := eq_some (sh_okI ho) (by decide) (sh_okI hbs) (by decide)
        have pb2 : ∀ env, propK ⟨P.call 7, P.io, P.glob⟩ 2 3 (mach bs) env = .ok (.d (.tup bs)) env := fun env => prop_ok rfl (belts_ok 5 bs)
        have o8 : ∀ ne env, oeqK ⟨P.call 7, P.io, P.glob⟩ 2 4 ne (mach ds) (mach bs) env = .ok (.d (.bl (r != ne))) env := fun ne env => oeq_own rfl (.inl rfl) (mach_eq 5 hr)
        have o9 : ∀ ne env, oeqK ⟨P.call 7, P.io, P.glob⟩ 2 4 ne (.tup ds) (.tup bs) env = .ok (.d (.bl (r != ne))) env := fun ne env => oeq_plain rfl rfl hr
        rw [turn_n _ _ _ _ _ _ (by show 7 < 8; decide)]
        simp only [b_law_0, o8, o9, o_bl, pb2, bb1, bb2, bb3, bb4, bb5, bb6, bb7, bb8, wp_ok, wp_ex, wp_bind, bnd_ok, bnd_ex, bl_bind, boolR_b, cond_t, cond_f, e_cst, e_var, varR_d, someR_s, e_prim, e_sl, e_slv, e_and, e_or, e_one, e_not, e_tru, e_ife, e_chain, e_call, e_lc, e_pop, s_nil, s_cons, o_no, o_yes, intR_i, pt_no, pt_yes, es_nil, es_val, es_vw, a_nil, a_val, a_vw, it_seq, it_rng, it_enum, opd_n, opd_s, t_set, t_unp, t_par, t_setIx, ownR_l, valR_d, t_aug, t_exp, t_app, frzR_s, t_frz, setS_lt, t_ife, t_ret, t_mov, t_retN, t_brk, t_cnt, t_pass, t_rais, t_tr, wp_try, h_nil, h_cons, then_nx, then_rt, then_bk, then_ct, b_nil, b_cons, after_nx, after_ct, after_bk, after_rt, after_no, after_so, fin_qn, fin_qr, so_vw, so_cst, so_var, so_glob, so_prim, so_sl, so_and, so_or, so_not, so_ife, so_one, so_tru, so_chain, so_call, so_lc, so_pop, snap_d, snap_l, Option.isSome_some, List.getD_cons_zero, List.getD_cons_succ, List.set_cons_zero, List.set_cons_succ, List.length_cons, List.length_nil, Nat.reduceAdd, Nat.reduceSub, Nat.reduceLT, Nat.reduceLeDiff, List.map_cons, List.map_nil, List.replicate, List.cons_append, List.nil_append, List.append_nil, outsOf, wipeE, backE, ownIx, putOuts, Option.toList, It.lk, Es.lk, items_l, items_t, slR_e, sl_t, sl_l, if_true, if_false, Bool.false_eq_true, Bool.true_and, Bool.and_true, Bool.not_true, Bool.not_false, Option.map_some, decide_true, decide_false, q_tup, q_lst, p_add, p_sub, p_mul, p_mod, p_div, p_pow18, p_lt, p_le, p_gt, p_ge, p_eq, p_ne, p_ixL, p_ixT, p_neg, p_lenL, p_lenT, p_int, p_intB, p_abs, p_min, p_max, p_tupL, p_tupT, p_listL, p_listT, p_dic, e_fld, e_prop, e_oeq, so_fld, so_prop, so_oeq, mk_nx, f_nil, f_cons]
        cases r <;> simp only [o8, o9, o_bl, pb2, bb1, bb2, bb3, bb4, bb5, bb6, bb7, bb8, wp_ok, wp_ex, wp_bind, bnd_ok, bnd_ex, bl_bind, boolR_b, cond_t, cond_f, e_cst, e_var, varR_d, someR_s, e_prim, e_sl, e_slv, e_and, e_or, e_one, e_not, e_tru, e_ife, e_chain, e_call, e_lc, e_pop, s_nil, s_cons, o_no, o_yes, intR_i, pt_no, pt_yes, es_nil, es_val, es_vw, a_nil, a_val, a_vw, it_seq, it_rng, it_enum, opd_n, opd_s, t_set, t_unp, t_par, t_setIx, ownR_l, valR_d, t_aug, t_exp, t_app, frzR_s, t_frz, setS_lt, t_ife, t_ret, t_mov, t_retN, t_brk, t_cnt, t_pass, t_rais, t_tr, wp_try, h_nil, h_cons, then_nx, then_rt, then_bk, then_ct, b_nil, b_cons, after_nx, after_ct, after_bk, after_rt, after_no, after_so, fin_qn, fin_qr, so_vw, so_cst, so_var, so_glob, so_prim, so_sl, so_and, so_or, so_not, so_ife, so_one, so_tru, so_chain, so_call, so_lc, so_pop, snap_d, snap_l, Option.isSome_some, List.getD_cons_zero, List.getD_cons_succ, List.set_cons_zero, List.set_cons_succ, List.length_cons, List.length_nil, Nat.reduceAdd, Nat.reduceSub, Nat.reduceLT, Nat.reduceLeDiff, List.map_cons, List.map_nil, List.replicate, List.cons_append, List.nil_append, List.append_nil, outsOf, wipeE, backE, ownIx, putOuts, Option.toList, It.lk, Es.lk, items_l, items_t, slR_e, sl_t, sl_l, if_true, if_false, Bool.false_eq_true, Bool.true_and, Bool.and_true, Bool.not_true, Bool.not_false, Option.map_some, decide_true, decide_false, q_tup, q_lst, p_add, p_sub, p_mul, p_mod, p_div, p_pow18, p_lt, p_le, p_gt, p_ge, p_eq, p_ne, p_ixL, p_ixT, p_neg, p_lenL, p_lenT, p_int, p_intB, p_abs, p_min, p_max, p_tupL, p_tupT, p_listL, p_listT, p_dic, e_fld, e_prop, e_oeq, so_fld, so_prop, so_oeq, mk_nx, f_nil, f_cons] <;> exact ⟨_, rfl⟩
end W

/-! the head -/
namespace W
open PySem PySem.Spec PyProof.Rows L2 AM
abbrev R : PySem.W.OpenRow := PySem.W.OpenLaw.row PySem.Challenge.rw_fullbelts_k19_machines_judged
abbrev hk : PySem.W.Hook := AM.hookX 5 txt
def ob (s : PySem.W.SharedT) : AM.AlX := AM.obsX 5 txt (HandSHeadRun.getT s)
theorem ob_eq (s : PySem.W.SharedT) : ob s = hk.obs s.abs := AM.obsX_eq (HandSHeadRun.getT_eq s)
def loose : List Str := ["BeltsError", "BadMachine", "is_integer", "are_lengths", "Machine", "empty", "_law_dice", "_law_draw", "_law_empty", "_law_is_machine", "_law_told", "_law_thing", "MOST_BELTS", "MOST_ROOMS", "MOST_SIZE"]
theorem run (w : World) : HandSHeadRun.RunEq R (PySem.W.view R.prog [19]) hk ob 4000 loose w := by
  intro os
  kernel_rfl
end W

namespace W
open PySem PySem.W PySem.Calls PyProof.Rows AM
theorem okk : txt.okB = true := by decide +kernel
theorem ok : txt.Ok := Txt.ok_by okk rfl (by decide +kernel)
end W
open PySem PySem.W PySem.Calls PyProof.Rows in
theorem PySem.Challenge.cw_fullbelts_k19_machines_judged_holds : PySem.Challenge.rw_fullbelts_k19_machines_judged.Holds := by
  w_on; o_law
  refine HandSHeadRun.head_any (r := OpenLaw.row PySem.Challenge.rw_fullbelts_k19_machines_judged) (q := view (OpenLaw.row PySem.Challenge.rw_fullbelts_k19_machines_judged).prog [19]) (H := W.hk) (ob := W.ob) (M := 4000) (loose := W.loose) (d := HandSHeadRun.topDef (OpenLaw.row PySem.Challenge.rw_fullbelts_k19_machines_judged).prog 19) (kwd := []) W.ob_eq
    (by kernel_rfl) (fun s => by kernel_rfl) W.run (by kernel_rfl) (by kernel_rfl) (by kernel_rfl) (by rfl) (by first | assumption | decide +kernel) (by decide +kernel) ⟨rfl, rfl, rfl, rfl, rfl, by decide +kernel⟩ ?hw ?hc
  case hw => w_witness2
  case hc =>
    exact AM.walk_am (l := PySem.Challenge.rw_fullbelts_k19_machines_judged) (k := 8) (t := W.txt) (f := 12) (fn := W.c_law) (x := "_law_script") rfl (by kernel_rfl) ⟨rfl, by decide, by decide⟩ W.ok rfl rfl (by kernel_rfl) rfl rfl rfl rfl (by decide) (by decide +kernel) W.law_true
