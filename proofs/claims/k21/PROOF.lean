import PyProof.Rows.All
import PySem.Challenge.RW_fullbelts_k21_holdings_and_carries_refus
import Wide.All
import OpenK.AllK
import Wide.FinOn
import HandS.ForMost
import HandS.ForExc
import HandS.IsInst
import HandS.Deep
import HandS.TupAny
import HandS.TupMul
import HandS.CallSlots
import HandS.Zip
import HandS.TryMany
import HandS.Defaults
import HandS.WordsExc
import HandS.HeadHook2
import HandS.HeadEnd
import HandS.Head0
import HandS.Head1
import HandS.Head2
import HandS.HeadHook1
set_option Elab.async false
set_option linter.all false
set_option maxRecDepth 100000
set_option maxHeartbeats 4000000
/-! the small machine: values as trees, an evaluator over trees -/
namespace AM
open PySem

inductive D where
  | non | bl (b : Bool) | int (i : Int) | str (x : Str)
  | tup (ds : List D) | lst (ds : List D)
  | dic (kvs : List (D × D))
  | obj (c : Nat) (ds : List D)
  | cls (c : Nat) | ty (n : String)

/-- a slot's content: a value that stays, or a container that is the slot's own -/
inductive T where
  | d (d : D) | l (ds : List D) | m (kvs : List (D × D)) | o (c : Nat) (ds : List D)
def T.snap : T → D
  | .d x => x
  | .l ds => .lst ds
  | .m kvs => .dic kvs
  | .o c ds => .obj c ds
def T.own : T → Bool
  | .d _ => false
  | _ => true
abbrev Env := List (Option T)

/-- an error: its class, its fields -/
structure X where
  c : Nat
  ds : List D

inductive R (α : Type) where
  | ok (a : α) (env : Env) | ex (x : X) (env : Env) | no
def R.bind {α β : Type} (r : R α) (f : α → Env → R β) : R β :=
  match r with
  | .ok a env => f a env
  | .ex x env => .ex x env
  | .no => .no
theorem R.bind_ok {α β : Type} (a : α) (env : Env) (f : α → Env → R β) : (R.ok a env).bind f = f a env := rfl
theorem R.bind_ex {α β : Type} (x : X) (env : Env) (f : α → Env → R β) : (R.ex x env : R α).bind f = .ex x env := rfl
theorem R.bind_no {α β : Type} (f : α → Env → R β) : (R.no : R α).bind f = .no := rfl

inductive Fl where
  | nx | rt (t : T) | bk | ct

/-- the built-ins -/
inductive Bi where
  | len | list | tuple | all | any | sum | abs | int | min | max | isinstance
def Bi.name : Bi → String
  | .len => "len" | .list => "list" | .tuple => "tuple" | .all => "all" | .any => "any" | .sum => "sum" | .abs => "abs" | .int => "int" | .min => "min" | .max => "max" | .isinstance => "isinstance"
def Bi.val : Bi → Value
  | .list => .type "list" | .tuple => .type "tuple" | .int => .type "int"
  | b => .builtin b.name
/-- what is reckoned of values alone -/
inductive Prim where
  | bin (o : Operator) | cmp (o : CmpOp) | neg | ix | bi (n : Bi) | tup | lst | dic

mutual
inductive E where
  | cst (d : D) | var (i : Nat) | vw (i : Nat) | glob (x : Str)
  | prim (p : Prim) (es : Es) | sl (x : E) (lo hi : Oe)
  | and (a b : E) | or (a b : E) | not (a : E) | ife (c a b : E) | one (a : E) | tru (a : E)
  | chain (o1 o2 : CmpOp) (a b c : E)
  | call (f : Nat) (es : Es)
  | lc (own : List (Str × Nat)) (p : Pt) (it : It) (ifs : Oe) (e : E)
  | pop (i : Nat) (es : Es)
inductive Es where
  | nil | cons (e : E) (es : Es)
inductive Oe where
  | no | yes (e : E)
inductive It where
  | seq (e : E) | rng (es : Es) | enum (e : E) | zip (es : Es)
inductive Pt where
  | name (i : Nat) | tup (ps : Pts)
inductive Pts where
  | nil | cons (p : Pt) (ps : Pts)
end
mutual
inductive S where
  | set (i : Nat) (e : E) | unp (p : Pt) (e : E) | par (i j : Nat) (a b : E)
  | setIx (i : Nat) (k v : E) | aug (i : Nat) (o : Operator) (e : E)
  | exp (e : E) | app (i : Nat) (e : E)
  | ife (c : E) (a b : Ss) | fo (p : Pt) (it : It) (b : Ss) | wh (c : E) (b : Ss)
  | ret (e : E) | mov (i : Nat) | retN | brk | cnt | pass
  | rais (c : Nat) (es : Es)
  | tr (b : Ss) (hs : Hs)
  | frz (i : Nat)
inductive Ss where
  | nil | cons (s : S) (ss : Ss)
inductive Hs where
  | nil | cons (c : Nat) (i : Option Nat) (b : Ss) (hs : Hs)
end

/-! ### values -/
mutual
def D.toP : D → PyData
  | .non => .none
  | .bl b => .bool b
  | .int i => .int i
  | .str x => .str x
  | .tup ds => .tuple (toPs ds)
  | .lst ds => .list (toPs ds)
  | .dic _ => .dict []
  | .obj _ _ => .dict []
  | .cls _ => .dict []
  | .ty _ => .dict []
def toPs : List D → List PyData
  | [] => []
  | d :: ds => d.toP :: toPs ds
end
def D.isNon : D → Bool
  | .non => true
  | _ => false
def D.isBl : D → Bool
  | .bl _ => true
  | _ => false
def D.getBl : D → Bool
  | .bl b => b
  | _ => false
def D.isInt : D → Bool
  | .int _ => true
  | _ => false
def D.getInt : D → Int
  | .int i => i
  | _ => 0
def D.flat : D → Bool
  | .non => true | .bl _ => true | .int _ => true | .str _ => true
  | _ => false
/-- == of flat values -/
def eqFlat : D → D → Bool
  | .non, .non => true
  | .bl a, .bl b => a == b
  | .bl a, .int b => (if a then 1 else 0) == b
  | .int a, .bl b => a == (if b then 1 else 0)
  | .int a, .int b => a == b
  | .str a, .str b => a == b
  | _, _ => false
def eqF (d e : D) : Option Bool := if SeqAt.shaped d.toP && SeqAt.shaped e.toP then some (PyData.eqv d.toP e.toP) else none
def items : D → Option (List D)
  | .lst ds => some ds
  | .tup ds => some ds
  | _ => none
def binF : Operator → D → D → Option T
  | .Add, .int i, .int j => some (.d (.int (i + j)))
  | .Add, .str x, .str y => if x.length + y.length ≤ sizeLine then some (.d (.str (x ++ y))) else none
  | .Add, .tup a, .tup b => if a.length + b.length ≤ sizeLine then some (.d (.tup (a ++ b))) else none
  | .Add, .lst a, .lst b => if a.length + b.length ≤ sizeLine then some (.l (a ++ b)) else none
  | .Add, .int i, .bl k => some (.d (.int (i + (if k then 1 else 0))))
  | .Sub, .int i, .int j => some (.d (.int (i - j)))
  | .Mult, .int i, .int j => if (-(2 ^ 64) < i ∧ i < 2 ^ 64) ∨ (-(2 ^ 64) < j ∧ j < 2 ^ 64) then some (.d (.int (i * j))) else none
  | .Mult, .tup a, .int k => if a ≠ [] ∧ 2 ≤ k ∧ k ≤ 1000 ∧ a.length ≤ 1000 then some (.d (.tup (List.replicate k.toNat a).flatten)) else none
  | .Mult, .lst a, .int k => if -(2 ^ 63) ≤ k ∧ k < 2 ^ 63 ∧ a.length * k.toNat ≤ sizeLine then some (.l (List.replicate k.toNat a).flatten) else none
  | .Mod, .int i, .int j => if 0 < j then some (.d (.int (i % j))) else none
  | .FloorDiv, .int i, .int j => if 0 < j ∧ j < 1073741824 then some (.d (.int (i / j))) else none
  | .Pow, .int i, .int j => if 0 ≤ j ∧ j ≤ 1000000 ∧ i.natAbs < 2 ^ 64 then some (.d (.int (i ^ j.toNat))) else none
  | _, _, _ => none
def inF (d : D) : D → Option Bool
  | .lst ds => if SeqAt.shaped d.toP && SeqAt.shaped (D.lst ds).toP then some (ds.any fun z => PyData.eqv z.toP d.toP) else none
  | .tup ds => if d.flat && ds.all D.flat then some (ds.any fun z => eqFlat z d) else none
  | _ => none
def cmpF : CmpOp → D → D → Option Bool
  | .Eq, d, e => eqF d e
  | .NotEq, d, e => (eqF d e).map (!·)
  | .Lt, .int i, .int j => some (decide (i < j))
  | .LtE, .int i, .int j => some (decide (i ≤ j))
  | .Gt, .int i, .int j => some (decide (j < i))
  | .GtE, .int i, .int j => some (decide (j ≤ i))
  | .Is, d, .non => some d.isNon
  | .IsNot, d, .non => some (!d.isNon)
  | .In, d, e => inF d e
  | .NotIn, d, e => (inF d e).map (!·)
  | _, _, _ => none
def ixF : D → D → Option D
  | .lst ds, .int i => L2.atI ds i
  | .tup ds, .int i => L2.atI ds i
  | .str z, .int i => if z.length ≤ sizeLine then (L2.atI z.cps.toList i).map fun c => .str ⟨#[c]⟩ else none
  | _, _ => none
def cutG {α : Type} (xs : List α) (lo hi : Option Int) : List α := (xs.drop (HT.sIx xs.length 0 lo)).take (HT.sIx xs.length xs.length hi - HT.sIx xs.length 0 lo)
def slF : D → Option Int → Option Int → Option T
  | .lst ds, lo, hi => some (.l (cutG ds lo hi))
  | .tup ds, lo, hi => some (.d (.tup (cutG ds lo hi)))
  | _, _, _ => none
def tagOf : D → Option String
  | .non => some "NoneType" | .bl _ => some "bool" | .int _ => some "int" | .str _ => some "str"
  | .tup _ => some "tuple" | .lst _ => some "list" | .dic _ => some "dict"
  | _ => none
def isiAny (g : String) : List D → Option Bool
  | [] => some false
  | .ty n :: r => (match L2.kitB g n with
    | some true => (isiAny g r).map fun _ => true
    | some false => isiAny g r
    | none => none)
  | _ :: _ => none
def biF : Bi → List D → Option T
  | .len, [.lst xs] => some (.d (.int xs.length))
  | .len, [.tup xs] => some (.d (.int xs.length))
  | .len, [.str z] => if z.length ≤ sizeLine then some (.d (.int z.length)) else none
  | .list, [.lst xs] => some (.l xs)
  | .list, [.tup xs] => some (.l xs)
  | .tuple, [.lst xs] => some (.d (.tup xs))
  | .tuple, [.tup xs] => some (.d (.tup xs))
  | .all, [.lst xs] => if xs.all D.isBl then some (.d (.bl (xs.all D.getBl))) else none
  | .any, [.lst xs] => if xs.all D.isBl then some (.d (.bl (xs.any D.getBl))) else none
  | .sum, [.lst xs] => if xs.all D.isInt then some (.d (.int (xs.map D.getInt).sum)) else none
  | .sum, [.tup xs] => if xs.all D.isInt then some (.d (.int (xs.map D.getInt).sum)) else none
  | .abs, [.int i] => some (.d (.int (if i < 0 then -i else i)))
  | .int, [.int i] => some (.d (.int i))
  | .int, [.bl k] => some (.d (.int (if k then 1 else 0)))
  | .min, [.int i, .int j] => some (.d (.int (if j < i then j else i)))
  | .max, [.int i, .int j] => some (.d (.int (if j > i then j else i)))
  | .isinstance, [d, .ty t] => match tagOf d with
      | some g => (L2.kitB g t).map fun b => .d (.bl b)
      | none => none
  | .isinstance, [d, .tup ts] => match tagOf d with
      | some g => (isiAny g ts).map fun b => .d (.bl b)
      | none => none
  | _, _ => none
def primF : Prim → List D → Option T
  | .bin o, [a, b] => binF o a b
  | .cmp o, [a, b] => (cmpF o a b).map fun b => .d (.bl b)
  | .neg, [.int i] => some (.d (.int (-i)))
  | .ix, [a, b] => (ixF a b).map .d
  | .bi n, ds => biF n ds
  | .tup, ds => if ds.length ≤ sizeLine then some (.d (.tup ds)) else none
  | .lst, ds => if ds.length ≤ sizeLine then some (.l ds) else none
  | .dic, [] => some (.d (.dic []))
  | _, _ => none

/-! ### the evaluator -/
def Env.get (env : Env) (i : Nat) : Option T := env.getD i none
/-- the slots of own forgotten -/
def wipeE (env : Env) : List Nat → Env
  | [] => env
  | v :: vs => (wipeE env vs).set v none
/-- the slots of own as they were -/
def backE (env old : Env) : List Nat → Env
  | [] => env
  | v :: vs => (backE env old vs).set v (old.getD v none)
def ownIx (own : List (Str × Nat)) : List Nat := own.map fun p => p.2
mutual
def bindPt : Pt → D → Env → Option Env
  | .name i, d, env => if i < env.length then some (env.set i (some (.d d))) else none
  | .tup ps, .tup ds, env => bindPts ps ds env
  | .tup _, _, _ => none
def bindPts : Pts → List D → Env → Option Env
  | .nil, [], env => some env
  | .cons p ps, d :: ds, env => match bindPt p d env with
    | some env' => bindPts ps ds env'
    | none => none
  | _, _, _ => none
end
def truF : D → Option Bool
  | .bl b => some b
  | .int i => some (i != 0)
  | .non => some false
  | .lst ds => some (!ds.isEmpty)
  | .tup ds => some (!ds.isEmpty)
  | _ => none
def enumF (ds : List D) : List D := ds.zipIdx.map fun p => .tup [.int p.2, p.1]
def zipF (ds es : List D) : List D := (ds.zip es).map fun p => .tup [p.1, p.2]
def rngF : List D → Option (List D)
  | [.int j] => if -(2 ^ 62) ≤ j ∧ j < 2 ^ 62 then some ((List.range j.toNat).map fun (n : Nat) => .int n) else none
  | [.int i, .int j] => if -(2 ^ 62) ≤ i ∧ i < 2 ^ 62 ∧ -(2 ^ 62) ≤ j ∧ j < 2 ^ 62 then some ((List.range (j - i).toNat).map fun (n : Nat) => .int (i + n)) else none
  | _ => none
/-- over the items -/
def forL (b : D → Env → R Fl) : List D → Env → R Fl
  | [], env => .ok .nx env
  | d :: ds, env => (b d env).bind fun f env' => match f with
    | .nx => forL b ds env'
    | .ct => forL b ds env'
    | .bk => .ok .nx env'
    | .rt t => .ok (.rt t) env'
/-- no error may leave it -/
def R.noex {α : Type} (r : R α) : R α := match r with
  | .ex _ _ => .no
  | r => r
def lcL (b : D → Env → R (Option D)) : List D → List D → Env → R (List D)
  | [], acc, env => .ok acc env
  | d :: ds, acc, env => (b d env).noex.bind fun o env' => match o with
    | none => lcL b ds acc env'
    | some x => if acc.length < sizeLine then lcL b ds (acc ++ [x]) env' else .no
def whL (c : Env → R Bool) (b : Env → R Fl) : Nat → Env → R Fl
  | 0, _ => .no
  | n + 1, env => (c env).bind fun t env1 => match t with
    | false => .ok .nx env1
    | true => (b env1).bind fun f env2 => match f with
      | .nx => whL c b n env2
      | .ct => whL c b n env2
      | .bk => .ok .nx env2
      | .rt t => .ok (.rt t) env2
/-- how many turns a while may take here -/
def most : Nat := 2 ^ 60

/-- a def: how many parameters, how many slots, which parameters it changes, its body -/
structure Fn where
  np : Nat
  n : Nat
  io : List Nat
  body : Ss
/-- the surroundings: calls, module constants -/
structure Cl where
  call : Nat → List T → R T
  io : Nat → List Nat
  glob : Str → Option D

def slR (d : D) (lo hi : Option Int) (env : Env) : R T := match slF d lo hi with
  | some t => .ok t env
  | none => .no
def R.bl (r : R T) : R Bool := r.bind fun t env => match t with
  | .d (.bl b) => .ok b env
  | _ => .no
def R.opt {α β : Type} (o : Option α) (env : Env) (f : α → R β) : R β := match o with
  | some a => f a
  | none => .no
def T.atom : T → Bool
  | .d .non => true | .d (.bl _) => true | .d (.int _) => true | .d (.str _) => true
  | _ => false
/-- the arguments' slots behind a call: those of changed parameters hold what the call left there -/
def putOuts : List Nat → Env → List (Option Nat) → Env → Env
  | j :: io, o :: outs, sl, env => putOuts io outs sl (match sl.getD j none with
    | some i => env.set i o
    | none => env)
  | _, _, _, env => env
/-- arguments: for a changed parameter the slot, for another one a value -/
def slotOf : E → Option Nat
  | .vw i => some i
  | _ => none
def Es.slots : Es → List (Option Nat)
  | .nil => []
  | .cons e es => slotOf e :: es.slots
/-- the slots handed in for change are unlike ones, and no other slot is looked at -/
def ioOk (io : List Nat) (sl : List (Option Nat)) : Bool :=
  (io.all fun j => (sl.getD j none).isSome) && decide ((io.map fun j => sl.getD j none).Nodup) && (sl.zipIdx.all fun p => p.1.isNone || io.contains p.2)
def callK (C : Cl) (f : Nat) (sl : List (Option Nat)) (ts : List T) (env : Env) : R T :=
  match ioOk (C.io f) sl with
    | false => .no
    | true => match C.call f ts with
      | .ok t outs => .ok t (putOuts (C.io f) outs sl env)
      | .ex x outs => .ex x (putOuts (C.io f) outs sl env)
      | .no => .no
def Es.lk : Es → List Nat
  | .nil => []
  | .cons e es => match slotOf e with
    | some i => i :: es.lk
    | none => es.lk
/-- the slots that a walk looks at -/
def It.lk : It → List Nat
  | .seq e => (slotOf e).toList
  | .enum e => (slotOf e).toList
  | .zip es => es.lk
  | .rng _ => []
/-- an operand: what it is, looked at where it stands -/
def opd (sl : Option Nat) (f : Env → R T) (env : Env) : R D := match sl with
  | some i => (match env.getD i none with
    | some t => .ok t.snap env
    | none => .no)
  | none => (f env).bind fun t env' => .ok t.snap env'
/-- xs.pop(), xs.pop(k) of a slot's own list -/
def popR (i : Nat) (ds : List D) (env : Env) : R T := match env.getD i none, ds with
  | some (.l xs), [] => (match xs[xs.length - 1]? with
    | some y => .ok (.d y) (env.set i (some (.l xs.dropLast)))
    | none => .no)
  | some (.l xs), [.int k] => if -(2 ^ 63) ≤ k ∧ k < 2 ^ 63 then (match L2.ixN xs.length k with
    | some j => (match xs[j]? with
      | some y => .ok (.d y) (env.set i (some (.l (xs.eraseIdx j))))
      | none => .no)
    | none => .no) else .no
  | _, _ => .no
/-- xs.append(x) -/
def appR (i : Nat) (d : D) (env : Env) : R Fl := match env.getD i none with
  | some (.l xs) => if xs.length < sizeLine then .ok .nx (env.set i (some (.l (xs ++ [d])))) else .no
  | _ => .no
mutual
def evE (C : Cl) : E → Env → R T
  | .cst d, env => .ok (.d d) env
  | .glob x, env => match C.glob x with
    | some d => .ok (.d d) env
    | none => .no
  | .var i, env => match env.getD i none with
    | some (.d d) => .ok (.d d) env
    | _ => .no
  | .vw _, _ => .no
  | .prim p es, env => (evEs C es env).bind fun ds env' => match primF p ds with
    | some t => .ok t env'
    | none => .no
  | .sl x lo hi, env => (match slotOf x with
    | some i => (match env.getD i none with
      | some _ => (evP C lo env).bind fun l env1 => (evP C hi env1).bind fun h env2 => match env2.getD i none with
        | some t => slR t.snap l h env2
        | none => .no
      | none => .no)
    | none => (evE C x env).bind fun t env0 => (evP C lo env0).bind fun l env1 => (evP C hi env1).bind fun h env2 => slR t.snap l h env2)
  | .and a b, env => ((evE C a env).bl).bind fun c env' => match c with
    | true => evE C b env'
    | false => .ok (.d (.bl false)) env'
  | .or a b, env => ((evE C a env).bl).bind fun c env' => match c with
    | true => .ok (.d (.bl true)) env'
    | false => evE C b env'
  | .one a, env => evE C a env
  | .not a, env => ((evE C a env).bl).bind fun c env' => .ok (.d (.bl (!c))) env'
  | .tru a, env => (opd (slotOf a) (evE C a) env).bind fun d env' => match truF d with
    | some b => .ok (.d (.bl b)) env'
    | none => .no
  | .ife c a b, env => ((evE C c env).bl).bind fun k env' => match k with
    | true => evE C a env'
    | false => evE C b env'
  | .chain o1 o2 a b c, env => (evE C a env).bind fun x env1 => (evE C b env1).bind fun y env2 => match cmpF o1 x.snap y.snap with
    | some true => (evE C c env2).bind fun z env3 => match cmpF o2 y.snap z.snap with
      | some k => .ok (.d (.bl k)) env3
      | none => .no
    | some false => .ok (.d (.bl false)) env2
    | none => .no
  | .call f es, env => (evA C es env).bind fun ts env' => callK C f es.slots ts env'
  | .lc own p it ifs e, env => (evI C it env).bind fun ds env0 =>
    (lcL (fun d env1 => match bindPt p d env1 with
      | none => .no
      | some env2 => (evO C ifs env2).bind fun k env3 => match k with
          | false => .ok none (wipeE env3 (ownIx own))
          | true => (evE C e env3).bind fun t env4 => .ok (some t.snap) (wipeE env4 (ownIx own))) ds [] (wipeE env0 (ownIx own ++ it.lk))).bind
      fun out env9 => .ok (.l out) (backE env9 env0 (ownIx own ++ it.lk))
  | .pop i es, env => (match env.getD i none with
    | some (.l _) => (evEs C es env).bind fun ds env' => popR i ds env'
    | _ => .no)
def evO (C : Cl) : Oe → Env → R Bool
  | .no, env => .ok true env
  | .yes c, env => (evE C c env).bl
def evP (C : Cl) : Oe → Env → R (Option Int)
  | .no, env => .ok none env
  | .yes c, env => (evE C c env).bind fun t env' => match t with
    | .d (.int i) => .ok (some i) env'
    | _ => .no
def evEs (C : Cl) : Es → Env → R (List D)
  | .nil, env => .ok [] env
  | .cons e es, env => match slotOf e with
    | some i => (match env.getD i none with
      | some _ => (evEs C es env).bind fun ds env' => match env'.getD i none with
        | some t => .ok (t.snap :: ds) env'
        | none => .no
      | none => .no)
    | none => (evE C e env).bind fun t env' => (evEs C es env').bind fun ds env'' => .ok (t.snap :: ds) env''
def evA (C : Cl) : Es → Env → R (List T)
  | .nil, env => .ok [] env
  | .cons e es, env => match slotOf e with
    | some i => (match env.getD i none with
      | some _ => (evA C es env).bind fun ds env' => match env'.getD i none with
        | some t => .ok (t :: ds) env'
        | none => .no
      | none => .no)
    | none => (evE C e env).bind fun t env' => (evA C es env').bind fun ds env'' => .ok (.d t.snap :: ds) env''
def evI (C : Cl) : It → Env → R (List D)
  | .seq e, env => (opd (slotOf e) (evE C e) env).bind fun d env' => match items d with
    | some ds => .ok ds env'
    | none => .no
  | .rng es, env => (evEs C es env).bind fun ds env' => match rngF ds with
    | some xs => .ok xs env'
    | none => .no
  | .enum e, env => (opd (slotOf e) (evE C e) env).bind fun d env' => match d with
    | .lst ds => .ok (enumF ds) env'
    | _ => .no
  | .zip es, env => (evEs C es env).bind fun ds env' => match ds with
    | [.lst xs, .lst ys] => .ok (zipF xs ys) env'
    | [.tup xs, .tup ys] => .ok (zipF xs ys) env'
    | _ => .no
end

/-! ### statements -/
def setS (i : Nat) (t : T) (env : Env) : R Fl := if i < env.length then .ok .nx (env.set i (some t)) else .no
mutual
def Pt.slots : Pt → List Nat
  | .name i => [i]
  | .tup ps => ps.slots
def Pts.slots : Pts → List Nat
  | .nil => []
  | .cons p ps => p.slots ++ ps.slots
end
/-- xs[k] = d -/
def putR (i : Nat) (k d : D) (env : Env) : R Fl := match env.getD i none, k with
  | some (.l xs), .int n => (match L2.ixN xs.length n with
    | some j => .ok .nx (env.set i (some (.l (xs.set j d))))
    | none => .no)
  | _, _ => .no
/-- x += d -/
def augR (i : Nat) (o : Operator) (x d : D) (env : Env) : R Fl := match o, x, d with
  | .Add, .int a, .int b => setS i (.d (.int (a + b))) env
  | .Sub, .int a, .int b => setS i (.d (.int (a - b))) env
  | _, _, _ => .no
mutual
/-- the slots that a statement stores anew -/
def S.asg : S → List Nat
  | .set i _ => [i]
  | .unp p _ => p.slots
  | .par i j _ _ => [i, j]
  | .aug i _ _ => [i]
  | .ife _ a b => a.asg ++ b.asg
  | .fo p _ b => p.slots ++ b.asg
  | .wh _ b => b.asg
  | .tr b hs => b.asg ++ hs.asg
  | _ => []
def Ss.asg : Ss → List Nat
  | .nil => []
  | .cons s ss => s.asg ++ ss.asg
def Hs.asg : Hs → List Nat
  | .nil => []
  | .cons _ i b hs => i.toList ++ b.asg ++ hs.asg
end
def apart (a b : List Nat) : Bool := a.all fun i => !b.contains i
structure Cls where
  isa : Nat → Nat → Bool
mutual
def evS (C : Cl) (isa : Nat → Nat → Bool) : S → Env → R Fl
  | .set i e, env => (evE C e env).bind fun t env' => setS i t env'
  | .unp p e, env => (evE C e env).bind fun t env' => match bindPt p t.snap env' with
    | some env2 => .ok .nx env2
    | none => .no
  | .par i j a b, env => (evE C a env).bind fun t env1 => (evE C b env1).bind fun u env2 => (setS i (.d t.snap) env2).bind fun _ env3 => setS j (.d u.snap) env3
  | .setIx i k v, env => (evE C v env).bind fun tv env1 => (match env1.getD i none with
    | some (.l _) => (evE C k env1).bind fun tk env2 => putR i tk.snap tv.snap env2
    | _ => .no)
  | .aug i o e, env => (match env.getD i none with
    | some (.d x) => (evE C e env).bind fun t env' => augR i o x t.snap env'
    | _ => .no)
  | .exp e, env => (evE C e env).bind fun _ env' => .ok .nx env'
  | .app i e, env => (match env.getD i none with
    | some (.l _) => (evE C e env).bind fun t env' => appR i t.snap env'
    | _ => .no)
  | .ife c a b, env => ((evE C c env).bl).bind fun k env' => match k with
    | true => evSs C isa a env'
    | false => evSs C isa b env'
  | .fo p it b, env => match apart it.lk (p.slots ++ b.asg) with
    | false => .no
    | true => (evI C it env).bind fun ds env0 =>
      (forL (fun d env1 => match bindPt p d env1 with
        | none => .no
        | some env2 => evSs C isa b env2) ds (wipeE env0 it.lk)).bind fun f env9 => match f with
          | .rt t => .ok (.rt t) (backE env9 env0 it.lk)
          | _ => .ok .nx (backE env9 env0 it.lk)
  | .wh c b, env => whL (fun env1 => (evE C c env1).bl) (fun env1 => evSs C isa b env1) most env
  | .ret e, env => (evE C e env).bind fun t env' => .ok (.rt t) env'
  | .mov i, env => match env.getD i none with
    | some t => .ok (.rt t) (env.set i none)
    | none => .no
  | .retN, env => .ok (.rt (.d .non)) env
  | .brk, env => .ok .bk env
  | .cnt, env => .ok .ct env
  | .pass, env => .ok .nx env
  | .rais c es, env => (evEs C es env).bind fun ds env' => .ex ⟨c, ds⟩ env'
  | .tr b hs, env => match evSs C isa b env with
    | .ex x env' => evHs C isa hs x env'
    | r => r
  | .frz i, env => match env.getD i none with
    | some t => .ok .nx (env.set i (some (.d t.snap)))
    | none => .no
def evSs (C : Cl) (isa : Nat → Nat → Bool) : Ss → Env → R Fl
  | .nil, env => .ok .nx env
  | .cons s ss, env => (evS C isa s env).bind fun f env' => match f with
    | .nx => evSs C isa ss env'
    | f => .ok f env'
def evHs (C : Cl) (isa : Nat → Nat → Bool) : Hs → X → Env → R Fl
  | .nil, x, env => .ex x env
  | .cons c _ b hs, x, env => match isa x.c c with
    | true => evSs C isa b env
    | false => evHs C isa hs x env
end
/-- what is left in the changed parameters -/
def outsOf (io : List Nat) (env : Env) : Env := io.map fun j => env.getD j none
/-- a def's run -/
def runF (C : Cl) (isa : Nat → Nat → Bool) (fn : Fn) (ts : List T) : R T :=
  if ts.length = fn.np ∧ apart fn.io fn.body.asg = true then match evSs C isa fn.body (ts.map some ++ List.replicate (fn.n - fn.np) none) with
    | .ok .nx env => .ok (.d .non) (outsOf fn.io env)
    | .ok (.rt t) env => .ok t (outsOf fn.io env)
    | .ex x env => .ex x (outsOf fn.io env)
    | _ => .no
  else .no
/-- the whole text: its defs, its constants, its error classes -/
structure Tx where
  fns : List Fn
  glob : Str → Option D
  isa : Nat → Nat → Bool
def Tx.io (P : Tx) (f : Nat) : List Nat := match P.fns[f]? with
  | some fn => fn.io
  | none => []
def Tx.call (P : Tx) : Nat → Nat → List T → R T
  | 0, _, _ => .no
  | k + 1, f, ts => match P.fns[f]? with
    | some fn => runF ⟨P.call k, P.io, P.glob⟩ P.isa fn ts
    | none => .no
end AM

set_option maxHeartbeats 4000000
/-! what the trees say of the heap -/
namespace AM
open PySem PySem.Spec PyProof.Rows L2

/-- the constants of the text as values: classes, by their numbers -/
abbrev Cst := Nat → Option Addr

/-- a list of the module, as it stands in the text's own heap -/
def KL (K : PySem.W.Frag) (a : Addr) (vs : List V) : Prop := ∃ (its : Array Value) (n : Nat), K.lookup a = some { cls := .type "list", data := .seq its n } ∧ its.size ≤ sizeLine ∧ Vals vs its.toList
def KT (K : PySem.W.Frag) (a : Addr) (vs : List V) : Prop := ∃ (o : Obj) (its : Array Value) (n : Nat), K.lookup a = some o ∧ o.cls = .type "tuple" ∧ o.data = .seq its n ∧ its.size ≤ sizeLine ∧ Vals vs its.toList
def LstAt (K : PySem.W.Frag) (F : Hp) (a : Addr) (vs : List V) : Prop := Rd F a (.lst vs) ∨ KL K a vs
theorem LstAt.sq {K : PySem.W.Frag} {F : Hp} {a : Addr} {vs : List V} (h : LstAt K F a vs) : SqL K F a vs := h.imp id fun ⟨its, n, e, z, r⟩ => ⟨_, its, n, e, rfl, rfl, rfl, z, r⟩
/-- the same by a flag: one of the module's own -/
def KpL (K : PySem.W.Frag) (H : Hp) : Bool → Addr → List V → Prop
  | false, a, vs => Rd H a (.lst vs)
  | true, a, vs => KL K a vs
def KpT (K : PySem.W.Frag) (H : Hp) : Bool → Addr → List V → Prop
  | false, a, vs => Rd H a (.tup vs)
  | true, a, vs => KT K a vs
theorem KpL.at {K : PySem.W.Frag} {H : Hp} : ∀ {b : Bool} {a : Addr} {vs : List V}, KpL K H b a vs → LstAt K H a vs
  | false, _, _, h => .inl h
  | true, _, _, h => .inr h
theorem KpT.at {K : PySem.W.Frag} {H : Hp} : ∀ {b : Bool} {a : Addr} {vs : List V}, KpT K H b a vs → SqT K H a vs
  | false, _, _, h => .inl h
  | true, _, _, h => .inr h
mutual
inductive RepD (K : PySem.W.Frag) (cs : Cst) (F : Hp) : D → V → Prop where
  | non : RepD K cs F .non .non
  | bl (b : Bool) : RepD K cs F (.bl b) (.bl b)
  | int (i : Int) : RepD K cs F (.int i) (.int i)
  | str (x : Str) : RepD K cs F (.str x) (.str x)
  | ty (n : String) : RepD K cs F (.ty n) (.ty n)
  | cls {c : Nat} {a : Addr} : cs c = some a → RepD K cs F (.cls c) (.ref a)
  | tup {a : Addr} {vs : List V} {ds : List D} : SqT K F a vs → RepDs K cs F ds vs → RepD K cs F (.tup ds) (.ref a)
  | lst {a : Addr} {vs : List V} {ds : List D} : LstAt K F a vs → RepDs K cs F ds vs → RepD K cs F (.lst ds) (.ref a)
  | dic0 {a : Addr} : F a = some (.dK []) → RepD K cs F (.dic []) (.ref a)
inductive RepDs (K : PySem.W.Frag) (cs : Cst) (F : Hp) : List D → List V → Prop where
  | nil : RepDs K cs F [] []
  | cons {d : D} {v : V} {ds : List D} {vs : List V} : RepD K cs F d v → RepDs K cs F ds vs → RepDs K cs F (d :: ds) (v :: vs)
end

section
variable {K : PySem.W.Frag} {cs : Cst} {F F' H H' : Hp}

/-- all of F is in F' -/
def Sub (F F' : Hp) : Prop := ∀ p o, F p = some o → F' p = some o
theorem Sub.refl (F : Hp) : Sub F F := fun _ _ h => h
theorem Sub.trans {F1 F2 F3 : Hp} (a : Sub F1 F2) (b : Sub F2 F3) : Sub F1 F3 := fun p o h => b p o (a p o h)
theorem Sub.rd (a : Sub F F') {p : Addr} {u : HO} (h : Rd F p u) : Rd F' p u := by
  rcases h with h | ⟨o, h⟩
  · exact .inl (a _ _ h)
  · exact .inr ⟨o, a _ _ h⟩
theorem Sub.sql (a : Sub F F') {p : Addr} {vs : List V} (h : LstAt K F p vs) : LstAt K F' p vs := h.imp a.rd id
theorem Sub.sqt (a : Sub F F') {p : Addr} {vs : List V} (h : SqT K F p vs) : SqT K F' p vs := h.imp a.rd id
theorem Sub.upd {p : Addr} {o : HO} (h : F p = none) : Sub F (upd F p o) := fun q u e => by
  rw [upd_ne (ne_of_none e h)]
  exact e

mutual
theorem RepD.mono (s : Sub F F') : ∀ {d : D} {v : V}, RepD K cs F d v → RepD K cs F' d v
  | _, _, .non => .non
  | _, _, .bl b => .bl b
  | _, _, .int i => .int i
  | _, _, .str x => .str x
  | _, _, .ty n => .ty n
  | _, _, .cls h => .cls h
  | _, _, .tup h r => .tup (s.sqt h) (RepDs.mono s r)
  | _, _, .lst h r => .lst (s.sql h) (RepDs.mono s r)
  | _, _, .dic0 h => .dic0 (s _ _ h)
theorem RepDs.mono (s : Sub F F') : ∀ {ds : List D} {vs : List V}, RepDs K cs F ds vs → RepDs K cs F' ds vs
  | _, _, .nil => .nil
  | _, _, .cons h r => .cons (RepD.mono s h) (RepDs.mono s r)
end

theorem RepDs.length : ∀ {ds : List D} {vs : List V}, RepDs K cs F ds vs → ds.length = vs.length
  | _, _, .nil => rfl
  | _, _, .cons _ r => by rw [List.length_cons, List.length_cons, r.length]
theorem RepDs.get : ∀ {ds : List D} {vs : List V} {i : Nat} {d : D}, RepDs K cs F ds vs → ds[i]? = some d → ∃ v, vs[i]? = some v ∧ RepD K cs F d v
  | _, _, 0, _, .cons h _, e => ⟨_, rfl, by cases e; exact h⟩
  | _, _, i + 1, d, .cons _ r, e => by
    obtain ⟨v, h1, h2⟩ := RepDs.get (i := i) (d := d) r (by simpa using e)
    exact ⟨v, by simpa using h1, h2⟩
  | _, _, _, _, .nil, e => by simp at e
theorem RepDs.getV : ∀ {ds : List D} {vs : List V} {i : Nat} {v : V}, RepDs K cs F ds vs → vs[i]? = some v → ∃ d, ds[i]? = some d ∧ RepD K cs F d v
  | _, _, 0, _, .cons h _, e => ⟨_, rfl, by cases e; exact h⟩
  | _, _, i + 1, d, .cons _ r, e => by
    obtain ⟨v, h1, h2⟩ := RepDs.getV (i := i) (v := d) r (by simpa using e)
    exact ⟨v, by simpa using h1, h2⟩
  | _, _, _, _, .nil, e => by simp at e
theorem RepDs.append : ∀ {ds es : List D} {vs ws : List V}, RepDs K cs F ds vs → RepDs K cs F es ws → RepDs K cs F (ds ++ es) (vs ++ ws)
  | _, _, _, _, .nil, s => s
  | _, _, _, _, .cons h r, s => .cons h (RepDs.append r s)
theorem RepDs.take : ∀ {ds : List D} {vs : List V} (n : Nat), RepDs K cs F ds vs → RepDs K cs F (ds.take n) (vs.take n)
  | _, _, 0, _ => by rw [List.take_zero, List.take_zero]; exact .nil
  | _, _, _ + 1, .nil => .nil
  | _, _, n + 1, .cons h r => .cons h (RepDs.take n r)
theorem RepDs.drop : ∀ {ds : List D} {vs : List V} (n : Nat), RepDs K cs F ds vs → RepDs K cs F (ds.drop n) (vs.drop n)
  | _, _, 0, r => r
  | _, _, _ + 1, .nil => .nil
  | _, _, n + 1, .cons _ r => RepDs.drop n r
theorem RepDs.set {d : D} {v : V} (h : RepD K cs F d v) : ∀ {ds : List D} {vs : List V} (i : Nat), RepDs K cs F ds vs → RepDs K cs F (ds.set i d) (vs.set i v)
  | _, _, _, .nil => .nil
  | _, _, 0, .cons _ r => .cons h r
  | _, _, i + 1, .cons g r => .cons g (RepDs.set h i r)
theorem RepDs.eraseIdx : ∀ {ds : List D} {vs : List V} (i : Nat), RepDs K cs F ds vs → RepDs K cs F (ds.eraseIdx i) (vs.eraseIdx i)
  | _, _, _, .nil => .nil
  | _, _, 0, .cons _ r => r
  | _, _, i + 1, .cons g r => .cons g (RepDs.eraseIdx i r)
theorem RepDs.dropLast {ds : List D} {vs : List V} (r : RepDs K cs F ds vs) : RepDs K cs F ds.dropLast vs.dropLast := by
  rw [List.dropLast_eq_take, List.dropLast_eq_take, r.length]
  exact r.take _
theorem RepDs.rep {ds : List D} {vs : List V} (r : RepDs K cs F ds vs) : ∀ k : Nat, RepDs K cs F (List.replicate k ds).flatten (List.replicate k vs).flatten
  | 0 => .nil
  | k + 1 => by
    rw [List.replicate_succ, List.replicate_succ, List.flatten_cons, List.flatten_cons]
    exact r.append (RepDs.rep r k)

/-- what stays stands in the heap -/
def FIn (F H : Hp) : Prop := (∀ p u, Rd F p u → Rd H p u) ∧ ∀ p (o : HO), F p = some o → H p = some o
theorem FIn.sql (f : FIn F H) {p : Addr} {vs : List V} (h : LstAt K F p vs) : LstAt K H p vs := h.imp (f.1 _ _) id
theorem FIn.sqt (f : FIn F H) {p : Addr} {vs : List V} (h : SqT K F p vs) : SqT K H p vs := h.imp (f.1 _ _) id
/-- the tree stands at v as it is now: kept, or a container that may change later -/
inductive RepV (K : PySem.W.Frag) (cs : Cst) (F H : Hp) : D → V → Prop where
  | fz {d : D} {v : V} : RepD K cs F d v → RepV K cs F H d v
  | ol {p : Addr} {vs : List V} {ds : List D} : H p = some (.lst vs) → RepDs K cs F ds vs → RepV K cs F H (.lst ds) (.ref p)

/-- a slot's content stands at v -/
def RepT (K : PySem.W.Frag) (cs : Cst) (F H : Hp) : T → V → Prop
  | .d d, v => RepD K cs F d v
  | .l ds, v => ∃ p vs, v = .ref p ∧ H p = some (.lst vs) ∧ F p = none ∧ RepDs K cs F ds vs
  | .m _, _ => False
  | .o _ _, _ => False
theorem RepT.snap {t : T} {v : V} (r : RepT K cs F H t v) : RepV K cs F H t.snap v := by
  cases t with
  | d d => exact .fz r
  | l ds => obtain ⟨p, vs, rfl, h, _, q⟩ := r; exact .ol h q
  | m _ => exact r.elim
  | o _ _ => exact r.elim

/-- what the slots own -/
def Own (env : AM.Env) (σ : L2.St) (p : Addr) : Prop := ∃ (i : Nat) (t : T), env[i]? = some (some t) ∧ t.own = true ∧ σ[i]? = some (some (.ref p))

structure Rel (K : PySem.W.Frag) (cs : Cst) (F H : Hp) (env : AM.Env) (σ : L2.St) : Prop where
  len : env.length = σ.length
  fin : FIn F H
  slot : ∀ (i : Nat) (t : T), env[i]? = some (some t) → ∃ v, σ[i]? = some (some v) ∧ RepT K cs F H t v
  sep : ∀ (i j : Nat) (t u : T) (p : Addr), env[i]? = some (some t) → env[j]? = some (some u) → t.own = true → u.own = true → σ[i]? = some (some (.ref p)) → σ[j]? = some (some (.ref p)) → i = j

/-- from one state to a later one: O is what may change -/
structure Ext (F H : Hp) (O : Addr → Prop) (F' H' : Hp) (O' : Addr → Prop) : Prop where
  fr : Sub F F'
  keep : ∀ p o, H p = some o → ¬ O p → H' p = some o
  new : ∀ p, F' p ≠ none → F p = none → O p ∨ H p = none
  own : ∀ p, O' p → O p ∨ H p = none
theorem Ext.refl (F H : Hp) (O : Addr → Prop) : Ext F H O F H O := ⟨Sub.refl F, fun _ _ h _ => h, fun _ a b => absurd b a, fun _ h => .inl h⟩
theorem Ext.trans {F1 H1 F2 H2 F3 H3 : Hp} {O1 O2 O3 : Addr → Prop} (a : Ext F1 H1 O1 F2 H2 O2) (b : Ext F2 H2 O2 F3 H3 O3) : Ext F1 H1 O1 F3 H3 O3 := by
  have back : ∀ p, O2 p ∨ H2 p = none → O1 p ∨ H1 p = none := fun p h => by
    rcases h with h | h
    · exact a.own p h
    · by_cases h1 : O1 p
      · exact .inl h1
      · right
        cases e : H1 p with
        | none => rfl
        | some o => rw [a.keep p o e h1] at h; cases h
  refine ⟨a.fr.trans b.fr, fun p o h n => ?_, fun p h e => ?_, fun p h => back p (b.own p h)⟩
  · refine b.keep p o (a.keep p o h n) fun z => ?_
    rcases a.own p z with q | q
    · exact n q
    · rw [h] at q; cases q
  · by_cases e2 : F2 p = none
    · exact back p (b.new p h e2)
    · exact a.new p e2 e

theorem RepT.ext {O O' : Addr → Prop} {t : T} {v : V} (x : Ext F H O F' H' O') (r : RepT K cs F H t v) (n : t.own = true → ∀ p, v = .ref p → ¬ O p) : RepT K cs F' H' t v := by
  cases t with
  | d d => exact RepD.mono x.fr r
  | l ds =>
    obtain ⟨p, vs, e, h, hf, q⟩ := r
    have np := n rfl p e
    refine ⟨p, vs, e, x.keep p _ h np, ?_, q.mono x.fr⟩
    cases z : F' p with
    | none => rfl
    | some o =>
      rcases x.new p (by rw [z]; intro q; cases q) hf with q | q
      · exact absurd q np
      · rw [h] at q; cases q
  | m _ => exact r.elim
  | o _ _ => exact r.elim
theorem RepV.sql {ds : List D} {v : V} (r : RepV K cs F H (.lst ds) v) (fin : FIn F H) : ∃ p vs, v = .ref p ∧ SqL K H p vs ∧ RepDs K cs F ds vs := by
  cases r with
  | fz h =>
    cases h with
    | lst h q => exact ⟨_, _, rfl, (fin.sql h).sq, q⟩
  | ol h q => exact ⟨_, _, rfl, .inl (.inl h), q⟩
theorem RepV.sqt {ds : List D} {v : V} (r : RepV K cs F H (.tup ds) v) (fin : FIn F H) : ∃ p vs, v = .ref p ∧ SqT K H p vs ∧ RepDs K cs F ds vs := by
  cases r with
  | fz h =>
    cases h with
    | tup h q => exact ⟨_, _, rfl, fin.sqt h, q⟩

/-! ### new objects -/
theorem rd_none (fin : FIn F H) {p : Addr} (h : H p = none) : F p = none := by
  cases e : F p with
  | none => rfl
  | some o =>
    rcases fin.1 p o (.inl e) with q | ⟨o', q⟩ <;> (rw [h] at q; cases q)
theorem rd_upd {p q : Addr} {o u : HO} (hp : H p = none) (h : Rd H q u) : Rd (upd H p o) q u := (Sub.upd hp).rd h
theorem rd_updF {p q : Addr} {o u : HO} (h : Rd (upd F p o) q u) : Rd F q u ∨ (q = p ∧ (some o = some u ∨ ∃ o', some o = some (.frz o' u))) := by
  by_cases e : q = p
  · subst e
    unfold Rd at h
    rw [upd_same] at h
    exact .inr ⟨rfl, h⟩
  · unfold Rd at h
    rw [upd_ne e] at h
    exact .inl h
/-- a new object that stays -/
theorem Rel.newF {env : AM.Env} {σ : L2.St} {p : Addr} {o : HO} (r : Rel K cs F H env σ) (hp : H p = none) : Rel K cs (upd F p o) (upd H p o) env σ ∧ Ext F H (Own env σ) (upd F p o) (upd H p o) (Own env σ) := by
  have fp := rd_none r.fin hp
  have x : Ext F H (Own env σ) (upd F p o) (upd H p o) (Own env σ) := ⟨Sub.upd fp, fun q u e _ => Sub.upd hp q u e, fun q h e => ?_, fun _ h => .inl h⟩
  · refine ⟨⟨r.len, ⟨fun q u h => ?_, fun q xs h => ?_⟩, fun i t e => ?_, r.sep⟩, x⟩
    · rcases rd_updF h with h | ⟨eq, h9⟩
      · exact rd_upd hp (r.fin.1 q u h)
      · subst eq
        unfold Rd
        rw [upd_same]
        exact h9
    · by_cases qp : q = p
      · subst qp
        rw [upd_same] at h ⊢
        exact h
      · rw [upd_ne qp] at h ⊢
        exact r.fin.2 q xs h
    · obtain ⟨v, e1, h⟩ := r.slot i t e
      refine ⟨v, e1, ?_⟩
      cases t with
      | d d => exact RepD.mono x.fr h
      | l ds =>
        obtain ⟨q, vs, e2, h1, h2, h3⟩ := h
        have qp : q ≠ p := ne_of_none h1 hp
        exact ⟨q, vs, e2, Sub.upd hp _ _ h1, by rw [upd_ne qp]; exact h2, h3.mono x.fr⟩
      | m _ => exact h.elim
      | o _ _ => exact h.elim
  · by_cases qp : q = p
    · subst qp; exact .inr hp
    · rw [upd_ne qp] at h; exact absurd e h
/-- a new object that may change -/
theorem Rel.newO {env : AM.Env} {σ : L2.St} {p : Addr} {o : HO} (r : Rel K cs F H env σ) (hp : H p = none) : Rel K cs F (upd H p o) env σ ∧ Ext F H (Own env σ) F (upd H p o) (Own env σ) ∧ F p = none ∧ ¬ Own env σ p := by
  have fp := rd_none r.fin hp
  have x : Ext F H (Own env σ) F (upd H p o) (Own env σ) := ⟨Sub.refl F, fun q u e _ => Sub.upd hp q u e, fun q h e => absurd e h, fun _ h => .inl h⟩
  refine ⟨⟨r.len, ⟨fun q u h => rd_upd hp (r.fin.1 q u h), fun q xs h => Sub.upd hp _ _ (r.fin.2 q xs h)⟩, fun i t e => ?_, r.sep⟩, x, fp, ?_⟩
  · obtain ⟨v, e1, h⟩ := r.slot i t e
    refine ⟨v, e1, ?_⟩
    cases t with
    | d d => exact h
    | l ds =>
      obtain ⟨q, vs, e2, h1, h2, h3⟩ := h
      exact ⟨q, vs, e2, Sub.upd hp _ _ h1, h2, h3⟩
    | m _ => exact h.elim
    | o _ _ => exact h.elim
  · rintro ⟨i, t, e, ow, es⟩
    obtain ⟨v, e1, h⟩ := r.slot i t e
    rw [es] at e1; cases e1
    cases t with
    | d d => cases ow
    | l ds =>
      obtain ⟨q, vs, e2, h1, _⟩ := h
      cases e2
      rw [hp] at h1; cases h1
    | m _ => exact h.elim
    | o _ _ => exact h.elim
/-- behind an expression: t stands at v -/
structure Post (K : PySem.W.Frag) (cs : Cst) (F H : Hp) (env : AM.Env) (σ : L2.St) (F' H' : Hp) (env' : AM.Env) (t : T) (v : V) : Prop where
  ext : Ext F H (Own env σ) F' H' (Own env' σ)
  rel : Rel K cs F' H' env' σ
  rep : RepT K cs F' H' t v
  fresh : t.own = true → ∀ p, v = .ref p → ¬ Own env' σ p ∧ (Own env σ p ∨ H p = none)
/-- a result of its own is kept from now on -/
theorem Post.kept {env env' : AM.Env} {σ : L2.St} {t : T} {v : V} (r : Post K cs F H env σ F' H' env' t v) : ∃ F2, Post K cs F H env σ F2 H' env' (.d t.snap) v ∧ Sub F' F2 := by
  obtain ⟨x, r, h, n⟩ := r
  cases t with
  | d d => exact ⟨F', ⟨x, r, h, fun z => by cases z⟩, Sub.refl _⟩
  | l ds =>
    obtain ⟨p, vs, e, h1, h2, h3⟩ := h
    obtain ⟨np, np2⟩ := n rfl p e
    have s : Sub F' (upd F' p (.lst vs)) := Sub.upd h2
    refine ⟨upd F' p (.lst vs), ⟨⟨x.fr.trans s, x.keep, fun q a b => ?_, x.own⟩, ⟨r.len, ⟨fun q u hq => ?_, fun q xs hq => ?_⟩, fun i t ei => ?_, r.sep⟩, ?_, fun z => by cases z⟩, s⟩
    · by_cases qp : q = p
      · subst qp; exact np2
      · rw [upd_ne qp] at a; exact x.new q a b
    · rcases rd_updF hq with hq | ⟨eq, h9⟩
      · exact r.fin.1 q u hq
      · subst eq
        rcases h9 with h9 | ⟨o', h9⟩
        · cases h9; exact .inl h1
        · cases h9
    · by_cases qp : q = p
      · subst qp
        rw [upd_same] at hq
        cases hq
        exact h1
      · rw [upd_ne qp] at hq
        exact r.fin.2 q xs hq
    · obtain ⟨w, e1, hw⟩ := r.slot i t ei
      refine ⟨w, e1, ?_⟩
      cases t with
      | d d => exact RepD.mono s hw
      | l es =>
        obtain ⟨q, ws, e2, g1, g2, g3⟩ := hw
        have qp : q ≠ p := fun z => np ⟨i, .l es, ei, rfl, by rw [e1, e2, z]⟩
        exact ⟨q, ws, e2, g1, by rw [upd_ne qp]; exact g2, g3.mono s⟩
      | m _ => exact hw.elim
      | o _ _ => exact hw.elim
    · subst e
      exact .lst (.inl (.inl upd_same)) (h3.mono s)
  | m _ => exact h.elim
  | o _ _ => exact h.elim
/-- nothing but a state and a value that stays -/
theorem Post.stay {env : AM.Env} {σ : L2.St} {d : D} {v : V} (r : Rel K cs F H env σ) (h : RepD K cs F d v) : Post K cs F H env σ F H env (.d d) v := ⟨Ext.refl _ _ _, r, h, fun z => by cases z⟩
/-- one behind another -/
theorem Post.after {env env1 env' : AM.Env} {σ : L2.St} {F1 H1 : Hp} {t : T} {v : V} (x : Ext F H (Own env σ) F1 H1 (Own env1 σ)) (r : Post K cs F1 H1 env1 σ F' H' env' t v) : Post K cs F H env σ F' H' env' t v :=
  ⟨x.trans r.ext, r.rel, r.rep, fun o p e => ⟨(r.fresh o p e).1, by
    rcases (r.fresh o p e).2 with q | q
    · exact x.own p q
    · by_cases h1 : Own env σ p
      · exact .inl h1
      · right
        cases e : H p with
        | none => rfl
        | some u => rw [x.keep p u e h1] at q; cases q⟩⟩
/-- a new thing that stays -/
theorem Post.newK {env : AM.Env} {σ : L2.St} {p : Addr} {o : HO} {d : D} (r : Rel K cs F H env σ) (hp : H p = none) (h : RepD K cs (upd F p o) d (.ref p)) :
    Post K cs F H env σ (upd F p o) (upd H p o) env (.d d) (.ref p) := by
  obtain ⟨r2, x⟩ := r.newF (o := o) hp
  exact ⟨x, r2, h, fun z => by cases z⟩
/-- a new tuple -/
theorem Post.newTup {env : AM.Env} {σ : L2.St} {p : Addr} {ds : List D} {vs : List V} (r : Rel K cs F H env σ) (hp : H p = none) (h : RepDs K cs F ds vs) :
    Post K cs F H env σ (upd F p (.tup vs)) (upd H p (.tup vs)) env (.d (.tup ds)) (.ref p) := by
  obtain ⟨r2, x⟩ := r.newF (o := .tup vs) hp
  exact ⟨x, r2, .tup (.inl (.inl upd_same)) (h.mono x.fr), fun z => by cases z⟩
theorem Post.newLst {env : AM.Env} {σ : L2.St} {p : Addr} {ds : List D} {vs : List V} (r : Rel K cs F H env σ) (hp : H p = none) (h : RepDs K cs F ds vs) :
    Post K cs F H env σ F (upd H p (.lst vs)) env (.l ds) (.ref p) := by
  obtain ⟨r2, x, fp, no⟩ := r.newO (o := .lst vs) hp
  exact ⟨x, r2, ⟨p, vs, rfl, upd_same, fp, h⟩, fun _ q e => by cases e; exact ⟨no, .inr hp⟩⟩
end
end AM

set_option maxHeartbeats 4000000
/-! what is reckoned of values alone: the machine does as the trees say -/
namespace AM
open PySem PySem.Spec PyProof.Rows L2
section
variable {X : Cx} {cs : Cst} {F H : Hp} {env : AM.Env} {σ : L2.St}

/-! ### lists that are looked at -/
theorem lstR {pins : List (Addr × Obj)} {s : Shared} {l : Addr} {xs : List V} (I : Inv X pins σ H s) (h : LstAt X.K H l xs) : xs.length ≤ sizeLine ∧ ∃ (its : List Value) (n : Nat), Vals xs its ∧ xs.length = its.length ∧ s.heap.get? l = some { cls := .type "list", data := .seq its.toArray n } := by
  rcases h with h | ⟨its, n, hk, hz, r⟩
  · obtain ⟨z, its, n, r, e⟩ := h.ok I.hok
    exact ⟨z, its, n, r, r.length, e⟩
  · have e := r.length
    refine ⟨?_, its.toList, n, r, e, by rw [Array.toArray_toList]; exact I.kIn l _ hk⟩
    simp only [Array.length_toList] at e
    omega
def rCatR (K : PySem.W.Frag) : R2 := fun x y H Q => ∃ l b xs zs, x = .ref l ∧ y = .ref b ∧ LstAt K H l xs ∧ LstAt K H b zs ∧ xs.length + zs.length ≤ sizeLine ∧ ∀ p, H p = none → Q (.ref p) (upd H p (.lst (xs ++ zs)))
theorem op_catR : OpR X (binaryOp .Add) (rCatR X.K) := by
  intro pins s σ H x y v u Q I rx ry h
  obtain ⟨l, b, xs, zs, rfl, rfl, hH, hB, hz, q⟩ := h
  cases rx
  cases ry
  obtain ⟨z, its, n, r, hl, e⟩ := lstR I hH
  obtain ⟨z2, its2, n2, r2, hl2, e2⟩ := lstR I hB
  refine PySem.P.add_list e e2 ?_ (by rw [List.size_toArray, List.size_toArray]; omega)
  have ea : its.toArray ++ its2.toArray = (its ++ its2).toArray := by simp
  rw [ea]
  exact ⟨.ref _, _, I.lnew (t' := s.toks) (r.append r2) (by rw [List.length_append]; omega), rfl, q _ I.fresh⟩
def rRepR (K : PySem.W.Frag) : R2 := fun x y H Q => ∃ l k xs, x = .ref l ∧ y = .int k ∧ LstAt K H l xs ∧ -(2 ^ 63) ≤ k ∧ k < 2 ^ 63 ∧ xs.length * k.toNat ≤ sizeLine ∧
  ∀ p, H p = none → Q (.ref p) (upd H p (.lst (List.replicate k.toNat xs).flatten))
theorem op_repR : OpR X (binaryOp .Mult) (rRepR X.K) := by
  intro pins s σ H x y v u Q I rx ry h
  obtain ⟨l, k, xs, rfl, rfl, hH, h1, h2, hz, q⟩ := h
  cases rx
  obtain ⟨t, rfl⟩ := ry
  obtain ⟨z, its, n, r, hl, e⟩ := lstR I hH
  have hlen : its.toArray.size * k.toNat ≤ sizeLine := by rw [List.size_toArray, ← hl]; exact hz
  have hcap : ¬ its.toArray.size * k.toNat > (2 ^ 63 - 1) / 8 := by
    have : (sizeLine : Nat) ≤ (2 ^ 63 - 1) / 8 := by decide
    omega
  have hfit : ¬ (!Builtin.List.listFitsIndex k) = true := by
    rw [fitsIndex_both h1 h2]
    exact Bool.false_ne_true
  have hlong : ¬ Builtin.List.listTooLong (its.toArray.size * k.toNat) = true := by
    rw [notLongL hlen]
    exact Bool.false_ne_true
  have hnew : List.foldl (fun x1 x2 => x1 ++ x2) #[] (List.replicate (if its.toArray.isEmpty = true then 0 else k.toNat) its.toArray) = (List.replicate k.toNat its).flatten.toArray := by
    have f0 : ∀ m : Nat, List.foldl (fun x1 x2 => x1 ++ x2) #[] (List.replicate m its.toArray) = (List.replicate m its).flatten.toArray := fun m => by
      have := foldl_rep its m []
      rw [List.nil_append] at this
      exact this
    rw [f0]
    cases its with
    | nil => simp
    | cons a r' => rw [if_neg (by simp)]
  refine wpAny_binaryOp_repeat_ref (T := "list") (U := "int") (by decide) ⟨_, e, rfl⟩ (fun s' => typeIs_int s' k t) noFill_list_mul F.fills_int_mul F.slot_int_rmul repeat_list F.slot_int_index.lookup
    (call_meets F.slot_int_rmul (typeIs_int s k t) F.entry_int_rmul (F.args_int_rmul_2 _ _) (int___rmul___int_list k t l its.toArray n)
      ⟨e, rfl, ⟨_, e, rfl⟩, call_meets F.slot_list_mul ⟨_, e, rfl⟩ F.entry_list_mul (F.args_list_mul_2 _ _) (AutoListH.list___mul___list_int_3 l its.toArray n k t hfit hcap hlong) ⟨e, ?_⟩⟩)
  rw [hnew]
  exact ⟨.ref _, _, I.lnew (t' := s.toks) (r.rep k.toNat) (by rw [PyProof.Rows.lm_len_rep_flat, Nat.mul_comm]; exact hz), rfl, q _ I.fresh⟩

theorem RepV.rdl {K : PySem.W.Frag} {ds : List D} {v : V} (r : RepV K cs F H (.lst ds) v) (fin : FIn F H) : ∃ p vs, v = .ref p ∧ LstAt K H p vs ∧ RepDs K cs F ds vs := by
  cases r with
  | fz h =>
    cases h with
    | lst h q => exact ⟨_, _, rfl, fin.sql h, q⟩
  | ol h q => exact ⟨_, _, rfl, .inl (.inl h), q⟩

/-- a value without a heap, and its tree -/
theorem RepV.int {K : PySem.W.Frag} {i : Int} {v : V} (r : RepV K cs F H (.int i) v) : v = .int i := by
  cases r with
  | fz h => cases h; rfl
theorem RepV.str {K : PySem.W.Frag} {i : Str} {v : V} (r : RepV K cs F H (.str i) v) : v = .str i := by
  cases r with
  | fz h => cases h; rfl
theorem RepV.bl {K : PySem.W.Frag} {i : Bool} {v : V} (r : RepV K cs F H (.bl i) v) : v = .bl i := by
  cases r with
  | fz h => cases h; rfl
theorem RepV.non {K : PySem.W.Frag} {v : V} (r : RepV K cs F H .non v) : v = .non := by
  cases r with
  | fz h => cases h; rfl
theorem RepV.ty {K : PySem.W.Frag} {n : String} {v : V} (r : RepV K cs F H (.ty n) v) : v = .ty n := by
  cases r with
  | fz h => cases h; rfl

/-- what comes behind: the value t -/
def Gives (K : PySem.W.Frag) (cs : Cst) (F H : Hp) (env : AM.Env) (σ : L2.St) (t : T) (Q : VK) : Prop := ∀ v F' H', Post K cs F H env σ F' H' env t v → Q v H'
theorem Gives.stay {K : PySem.W.Frag} {d : D} {v : V} {Q : VK} (r : Rel K cs F H env σ) (q : Gives K cs F H env σ (.d d) Q) (h : RepD K cs F d v) : Q v H := q v F H (Post.stay r h)
theorem Gives.tup {K : PySem.W.Frag} {ds : List D} {vs : List V} {Q : VK} (r : Rel K cs F H env σ) (q : Gives K cs F H env σ (.d (.tup ds)) Q) (h : RepDs K cs F ds vs) : ∀ p, H p = none → Q (.ref p) (upd H p (.tup vs)) := fun p hp => q _ _ _ (Post.newTup r hp h)
theorem Gives.lst {K : PySem.W.Frag} {ds : List D} {vs : List V} {Q : VK} (r : Rel K cs F H env σ) (q : Gives K cs F H env σ (.l ds) Q) (h : RepDs K cs F ds vs) : ∀ p, H p = none → Q (.ref p) (upd H p (.lst vs)) := fun p hp => q _ _ _ (Post.newLst r hp h)

theorem bin_ok {o : Operator} {d e : D} {t : T} {x y : V} {Q : VK} (h : binF o d e = some t) (r : Rel X.K cs F H env σ) (rx : RepV X.K cs F H d x) (ry : RepV X.K cs F H e y) (q : Gives X.K cs F H env σ t Q) :
    ∃ r : R2, OpR X (binaryOp o) r ∧ r x y H Q := by
  unfold binF at h
  split at h
  · cases h
    cases rx.int
    cases ry.int
    exact ⟨_, op_add, _, _, rfl, rfl, q.stay r (.int _)⟩
  · split at h
    · rename_i hz
      cases h
      cases rx.str
      cases ry.str
      exact ⟨_, op_add_str, _, _, rfl, rfl, hz, q.stay r (.str _)⟩
    · cases h
  · split at h
    · rename_i hz
      cases h
      obtain ⟨p, vs, rfl, h1, r1⟩ := rx.sqt r.fin
      obtain ⟨p2, vs2, rfl, h2, r2⟩ := ry.sqt r.fin
      refine ⟨_, op_catA, p, p2, vs, vs2, rfl, rfl, h1, h2, by rw [← r1.length, ← r2.length]; exact hz, fun e => ?_, fun _ e => ?_, fun _ _ => q.tup r (r1.append r2)⟩
      · subst e
        cases r1
        cases ry with
        | fz h => exact q.stay r h
      · subst e
        cases r2
        rw [List.append_nil] at q
        cases rx with
        | fz h => exact q.stay r h
    · cases h
  · split at h
    · rename_i hz
      cases h
      obtain ⟨p, vs, rfl, h1, r1⟩ := rx.rdl r.fin
      obtain ⟨p2, vs2, rfl, h2, r2⟩ := ry.rdl r.fin
      exact ⟨_, op_catR, p, p2, vs, vs2, rfl, rfl, h1, h2, by rw [← r1.length, ← r2.length]; exact hz, q.lst r (r1.append r2)⟩
    · cases h
  · cases h
    cases rx.int
    cases ry.bl
    exact ⟨_, op_add_ib, _, _, rfl, rfl, q.stay r (.int _)⟩
  · cases h
    cases rx.int
    cases ry.int
    exact ⟨_, op_sub, _, _, rfl, rfl, q.stay r (.int _)⟩
  · split at h
    · rename_i hz
      cases h
      cases rx.int
      cases ry.int
      exact ⟨_, op_mul, _, _, rfl, rfl, hz, q.stay r (.int _)⟩
    · cases h
  · split at h
    · cases h
      obtain ⟨p, vs, rfl, h1, r1⟩ := rx.sqt r.fin
      cases ry.int
      rename_i hz
      obtain ⟨z1, z2, z3, z4⟩ := hz
      exact ⟨_, op_repT, p, _, vs, rfl, rfl, h1, by intro e; subst e; cases r1; exact z1 rfl, z2, z3, by rw [← r1.length]; exact z4, q.tup r (r1.rep _)⟩
    · cases h
  · split at h
    · cases h
      obtain ⟨p, vs, rfl, h1, r1⟩ := rx.rdl r.fin
      cases ry.int
      rename_i hz
      obtain ⟨z1, z2, z3⟩ := hz
      exact ⟨_, op_repR, p, _, vs, rfl, rfl, h1, z1, z2, by rw [← r1.length]; exact z3, q.lst r (r1.rep _)⟩
    · cases h
  · split at h
    · rename_i hz
      cases h
      cases rx.int
      cases ry.int
      exact ⟨_, op_mod, _, _, rfl, rfl, hz, q.stay r (.int _)⟩
    · cases h
  · split at h
    · rename_i hz
      cases h
      cases rx.int
      cases ry.int
      exact ⟨_, op_fdiv, _, _, rfl, rfl, hz, q.stay r (.int _)⟩
    · cases h
  · split at h
    · rename_i hz
      cases h
      cases rx.int
      cases ry.int
      exact ⟨_, op_pow, _, _, rfl, rfl, hz, q.stay r (.int _)⟩
    · cases h
  · cases h

/-! ### comparisons -/
mutual
theorem RepD.dp {K : PySem.W.Frag} (fin : FIn F H) : ∀ {d : D} {v : V}, RepD K cs F d v → d.toP.canLay0 = true → Dp K H v d.toP
  | _, _, .non, _ => by simp only [D.toP]; exact .non
  | _, _, .bl b, _ => by simp only [D.toP]; exact .bl b
  | _, _, .int b, _ => by simp only [D.toP]; exact .int b
  | _, _, .str b, _ => by simp only [D.toP]; exact .str b
  | _, _, .ty _, h => by simp [D.toP, PyData.canLay0] at h
  | _, _, .cls _, h => by simp [D.toP, PyData.canLay0] at h
  | _, _, .dic0 _, h => by simp [D.toP, PyData.canLay0] at h
  | _, _, .tup h r, c => by
    simp only [D.toP, PyData.canLay0] at c ⊢
    exact .tup (fin.sqt h) (RepDs.dp fin r c)
  | _, _, .lst h r, c => by
    simp only [D.toP, PyData.canLay0] at c ⊢
    exact .lst (fin.sql h).sq (RepDs.dp fin r c)
theorem RepDs.dp {K : PySem.W.Frag} (fin : FIn F H) : ∀ {ds : List D} {vs : List V}, RepDs K cs F ds vs → PyData.canLayAll0 (toPs ds) = true → DpAll K H vs (toPs ds)
  | _, _, .nil, _ => by simp only [toPs]; exact .nil
  | _, _, .cons h r, c => by
    simp only [toPs, PyData.canLayAll0, Bool.and_eq_true] at c ⊢
    exact .cons (RepD.dp fin h c.1) (RepDs.dp fin r c.2)
end
theorem RepV.dp {K : PySem.W.Frag} {d : D} {v : V} (r : RepV K cs F H d v) (fin : FIn F H) (c : d.toP.canLay0 = true) : Dp K H v d.toP := by
  cases r with
  | fz h => exact RepD.dp fin h c
  | ol h q =>
    simp only [D.toP, PyData.canLay0] at c ⊢
    exact .lst (.inl (.inl h)) (RepDs.dp fin q c)
theorem eqF_some {d e : D} {b : Bool} (h : eqF d e = some b) : SeqAt.shaped d.toP = true ∧ SeqAt.shaped e.toP = true ∧ PyData.eqv d.toP e.toP = b := by
  unfold eqF at h
  split at h
  · rename_i c
    rw [Bool.and_eq_true] at c
    exact ⟨c.1, c.2, Option.some.inj h⟩
  · cases h
theorem RepD.flat {K : PySem.W.Frag} {d : D} {v : V} (r : RepD K cs F d v) (f : d.flat = true) : flatV v = true ∧ ∀ {e : D} {w : V}, RepD K cs F e w → e.flat = true → eqV w v = eqFlat e d := by
  cases r <;> first | (cases f; done) | (refine ⟨rfl, fun q g => ?_⟩; cases q <;> first | rfl | (cases g; done))
theorem RepDs.flats {K : PySem.W.Frag} {d : D} {v : V} (r : RepD K cs F d v) (f : d.flat = true) : ∀ {ds : List D} {vs : List V}, RepDs K cs F ds vs → ds.all D.flat = true → vs.all flatV = true ∧ inV v vs = ds.any fun z => eqFlat z d
  | _, _, .nil, _ => ⟨rfl, rfl⟩
  | _, _, .cons h q, g => by
    rw [List.all_cons, Bool.and_eq_true] at g
    obtain ⟨a, b⟩ := RepDs.flats r f q g.2
    refine ⟨by rw [List.all_cons, (h.flat g.1).1, a]; rfl, ?_⟩
    show (eqV _ _ || inV _ _) = _
    rw [b, (r.flat f).2 h g.1, List.any_cons]
theorem toPs_map : ∀ ds : List D, toPs ds = ds.map D.toP
  | [] => rfl
  | d :: ds => by rw [toPs, toPs_map ds, List.map_cons]
theorem inF_ok {d e : D} {b : Bool} {x y : V} {Q : VK} {k : Nat} (hr : Room k X.A) (h : inF d e = some b) (r : Rel X.K cs F H env σ) (rx : RepV X.K cs F H d x) (ry : RepV X.K cs F H e y) :
    (Q (.bl b) H → ∃ r : R2, OpR X (compareOp .In) r ∧ r x y H Q) ∧ (Q (.bl (!b)) H → ∃ r : R2, OpR X (compareOp .NotIn) r ∧ r x y H Q) := by
  have hu : X.A.units + 65 < cLine := by have := hr.un; omega
  unfold inF at h
  split at h
  · split at h
    · rename_i ds c
      rw [Bool.and_eq_true] at c
      have e := Option.some.inj h
      have d1 := rx.dp r.fin (SeqAt.canLay_of_shaped c.1)
      have d2 := ry.dp r.fin (SeqAt.canLay_of_shaped c.2)
      simp only [D.toP] at d2 c
      have e2 : ((toPs ds).any fun z => PyData.eqv z d.toP) = b := by rw [toPs_map, List.any_map]; exact e
      exact ⟨fun q => ⟨_, op_inD hu, _, _, d1, d2, c.1, c.2, by rw [e2]; exact q⟩, fun q => ⟨_, op_notInD hu, _, _, d1, d2, c.1, c.2, by rw [e2]; exact q⟩⟩
    · cases h
  · split at h
    · rename_i c
      rw [Bool.and_eq_true] at c
      have e := Option.some.inj h
      obtain ⟨p, vs, rfl, h1, r1⟩ := ry.sqt r.fin
      cases rx with
      | fz rx =>
        obtain ⟨a, q2⟩ := RepDs.flats rx c.1 r1 c.2
        have e2 : inV x vs = b := q2.trans e
        exact ⟨fun q => ⟨_, op_in_seq, p, vs, rfl, .inr h1, (rx.flat c.1).1, a, by rw [e2]; exact q⟩, fun q => ⟨_, op_notIn_seq, p, vs, rfl, .inr h1, (rx.flat c.1).1, a, by rw [e2]; exact q⟩⟩
      | ol h q => cases c.1
    · cases h
  · cases h
theorem RepV.noneB {K : PySem.W.Frag} {d : D} {v : V} (r : RepV K cs F H d v) : decide (v = .non) = d.isNon := by
  cases r with
  | fz h => cases h <;> rfl
  | ol h q => rfl
theorem cmp_ok {o : CmpOp} {d e : D} {b : Bool} {x y : V} {Q : VK} {k : Nat} (hr : Room k X.A) (h : cmpF o d e = some b) (r : Rel X.K cs F H env σ) (rx : RepV X.K cs F H d x) (ry : RepV X.K cs F H e y) (q : Q (.bl b) H) :
    ∃ r : R2, OpR X (compareOp o) r ∧ r x y H Q := by
  have hu : X.A.units + 64 < cLine := hr.units
  unfold cmpF at h
  split at h
  · obtain ⟨s1, s2, e⟩ := eqF_some h
    exact ⟨_, op_eqD hu, _, _, rx.dp r.fin (SeqAt.canLay_of_shaped s1), ry.dp r.fin (SeqAt.canLay_of_shaped s2), s1, s2, by rw [e]; exact q⟩
  · obtain ⟨c, hc, e⟩ := Option.map_eq_some_iff.mp h
    obtain ⟨s1, s2, e2⟩ := eqF_some hc
    exact ⟨_, op_neD hu, _, _, rx.dp r.fin (SeqAt.canLay_of_shaped s1), ry.dp r.fin (SeqAt.canLay_of_shaped s2), s1, s2, by rw [e2, e]; exact q⟩
  · cases h; cases rx.int; cases ry.int
    exact ⟨_, op_lt, _, _, rfl, rfl, q⟩
  · cases h; cases rx.int; cases ry.int
    exact ⟨_, op_le, _, _, rfl, rfl, q⟩
  · cases h; cases rx.int; cases ry.int
    exact ⟨_, op_gt, _, _, rfl, rfl, q⟩
  · cases h; cases rx.int; cases ry.int
    exact ⟨_, op_ge, _, _, rfl, rfl, q⟩
  · cases h
    cases ry.non
    exact ⟨_, op_isN, rfl, by rw [rx.noneB]; exact q⟩
  · cases h
    cases ry.non
    refine ⟨_, op_notN, rfl, ?_⟩
    rw [rx.noneB]
    exact q
  · exact (inF_ok hr h r rx ry).1 q
  · obtain ⟨c, hc, e⟩ := Option.map_eq_some_iff.mp h
    subst e
    exact (inF_ok hr hc r rx ry).2 q
  · cases h

/-! ### items, slices -/
theorem RepDs.at {K : PySem.W.Frag} {ds : List D} {vs : List V} (r : RepDs K cs F ds vs) {i : Int} {d : D} (h : atI ds i = some d) : ∃ v, atI vs i = some v ∧ RepD K cs F d v := by
  unfold atI at h ⊢
  rw [← r.length]
  cases e : ixN ds.length i with
  | none => rw [e] at h; cases h
  | some j =>
    rw [e] at h
    exact r.get h
theorem ix_ok {d e : D} {t : D} {x y : V} {Q : VK} (h : ixF d e = some t) (r : Rel X.K cs F H env σ) (rx : RepV X.K cs F H d x) (ry : RepV X.K cs F H e y) (q : Gives X.K cs F H env σ (.d t) Q) :
    ∃ r : R2, IxR X r ∧ r x y H Q := by
  unfold ixF at h
  split at h
  · obtain ⟨p, vs, rfl, h1, r1⟩ := rx.sql r.fin
    cases ry.int
    obtain ⟨v, a, b⟩ := r1.at h
    exact ⟨_, ix_list, p, vs, _, v, rfl, rfl, h1, a, q.stay r b⟩
  · obtain ⟨p, vs, rfl, h1, r1⟩ := rx.sqt r.fin
    cases ry.int
    obtain ⟨v, a, b⟩ := r1.at h
    exact ⟨_, ix_tup, p, vs, _, v, rfl, rfl, h1, a, q.stay r b⟩
  · split at h
    · rename_i hz
      obtain ⟨c, hc, e⟩ := Option.map_eq_some_iff.mp h
      subst e
      cases rx.str
      cases ry.int
      exact ⟨_, ix_str, _, _, c, rfl, rfl, hz, hc, q.stay r (.str _)⟩
    · cases h
  · cases h
theorem RepDs.cut {K : PySem.W.Frag} {ds : List D} {vs : List V} (r : RepDs K cs F ds vs) (lo hi : Option Int) : RepDs K cs F (cutG ds lo hi) (cutV vs lo hi) := by
  unfold cutG cutV
  rw [r.length]
  exact (r.drop _).take _
theorem cut_whole {α : Type} (xs : List α) (lo hi : Option Int) (h : HT.sIx xs.length 0 lo = 0 ∧ HT.sIx xs.length xs.length hi = xs.length) : cutG xs lo hi = xs := by
  unfold cutG
  rw [h.1, h.2]
  simp
theorem sl_ok {d : D} {lo hi : Option Int} {t : T} {x : V} {Q : VK} (h : slF d lo hi = some t) (r : Rel X.K cs F H env σ) (rx : RepV X.K cs F H d x) (q : Gives X.K cs F H env σ t Q) :
    ∃ r : V → Option Int → Option Int → Hp → VK → Prop, SlR X r ∧ r x lo hi H Q := by
  unfold slF at h
  split at h
  · cases h
    obtain ⟨p, vs, rfl, h1, r1⟩ := rx.sql r.fin
    exact ⟨_, sl_list, p, vs, rfl, h1, q.lst r (r1.cut lo hi)⟩
  · cases h
    obtain ⟨p, vs, rfl, h1, r1⟩ := rx.sqt r.fin
    refine ⟨_, sl_tupA, p, vs, rfl, h1, fun e => ?_, fun _ => q.tup r (r1.cut lo hi)⟩
    rw [← r1.length] at e
    rw [cut_whole _ lo hi e] at q
    cases rx with
    | fz h => exact q.stay r h
  · cases h

/-! ### built-ins -/
theorem RepDs.bls {K : PySem.W.Frag} : ∀ {ds : List D} {vs : List V}, RepDs K cs F ds vs → ds.all D.isBl = true → vs = (ds.map D.getBl).map V.bl
  | _, _, .nil, _ => rfl
  | _, _, .cons h r, g => by
    rw [List.all_cons, Bool.and_eq_true] at g
    rw [RepDs.bls r g.2]
    cases h <;> first | rfl | (cases g.1; done)
theorem RepDs.ints {K : PySem.W.Frag} : ∀ {ds : List D} {vs : List V}, RepDs K cs F ds vs → ds.all D.isInt = true → vs = (ds.map D.getInt).map V.int
  | _, _, .nil, _ => rfl
  | _, _, .cons h r, g => by
    rw [List.all_cons, Bool.and_eq_true] at g
    rw [RepDs.ints r g.2]
    cases h <;> first | rfl | (cases g.1; done)
/-- sum of a tuple of ints -/
theorem sum_tupG {prog : Program} {w : World} {A : Around} {E : Value → Shared → Prop} {s : Shared} {l : Addr} {xs : Array (Int × Tok)} {Q : Value → Shared → Prop} (hh : A.handled = none) (hl : s.heap.IsTuple l (intItems xs))
    (h : ∀ h' tk t', (∀ b o, s.heap.get? b = some o → h'.get? b = some o) → Q (.int (preSum (numAt xs) xs.size) t') { s with heap := h', toks := tk }) :
    wpAny (model prog w) A (call (.builtin "sum") [.ref l]) Q E s := by
  refine call_sum_walkG (wpAny_pyIter_tuple hl ?_)
  have hlt : l < s.heap.objs.size := by
    obtain ⟨o, e, _⟩ := hl
    exact Heap.lt_size e
  refine ⟨s.heap.objs.size, [s.heap.objs.size, l], [s.heap.objs.size], _, _, _, numAt xs, rfl, Walks.tuple (A := A.in1) hh s.heap.objs.size l (Nat.ne_of_lt hlt) (intItems xs), ⟨⟨_, Heap.get?_push_size _ rfl, rfl, rfl⟩, hl.push _⟩, fun b hb => ?_, (fun _ _ => intItems_at), fun h' tk t' hk => ?_⟩
  · rw [Heap.size_push]
    rcases List.mem_cons.mp hb with e | e
    · subst e; exact Nat.lt_succ_self _
    · have e2 : b = l := by simpa using e
      subst e2
      exact Nat.lt_succ_of_lt hlt
  · have := h h' tk t' fun b o e => hk b o (by
      intro z
      have e2 : b = s.heap.objs.size := by simpa using z
      exact absurd (Heap.lt_size e) (by rw [e2]; exact Nat.lt_irrefl _)) (Heap.get?_push_of_some _ e)
    simpa [intItems] using this
def rSumT (K : PySem.W.Frag) : List V → Hp → VK → Prop := fun vs H Q => ∃ (a : Addr) (ns : List Int), vs = [V.ref a] ∧ SqT K H a (ns.map V.int) ∧ Q (.int ns.sum) H
theorem cr_sumT (hc : X.calm = true) : CallR X (.builtin "sum") (rSumT X.K) := by
  intro pins s σ H vs us Q I r h
  obtain ⟨a, ns, rfl, hs, q⟩ := h
  obtain ⟨its, rv, hl, _⟩ := I.tuple hs
  rw [Vals.ref1 r]
  have hi := rv.ints
  obtain ⟨xs, e⟩ := hi.allInts.items
  have hn : numsOf (intItems xs).toList = ns := by rw [← e]; exact hi.numsOf
  rw [nums_intItems] at hn
  have hl : s.heap.IsTuple a its.toArray := hl
  rw [e] at hl
  refine sum_tupG (I.ok.hd hc) hl fun h' tk t' hk => ?_
  rw [preSum_eq, List.take_of_length_le (by simp), hn]
  exact ⟨.int _, H, I.kept hk, ⟨_, rfl⟩, q⟩
theorem RepV.tyX {K : PySem.W.Frag} {d : D} {v : V} {g : String} (r : RepV K cs F H d v) (fin : FIn F H) (h : tagOf d = some g) : TyX K H v (.type g) := by
  cases r with
  | fz q =>
    cases q with
    | non => cases h; exact .base .non
    | bl b => cases h; exact .base (.bl b)
    | int b => cases h; exact .base (.int b)
    | str b => cases h; exact .base (.str b)
    | ty n => cases h
    | cls _ => cases h
    | dic0 a => cases h; exact .base (.dK (fin.2 _ _ a))
    | tup a b =>
      cases h
      rcases fin.sqt a with (e | ⟨o, e⟩) | ⟨o, its, n, e, c, _⟩
      · exact .base (.tup e)
      · exact .fTuple e
      · exact .kTuple e c
    | lst a b =>
      cases h
      rcases fin.sql a with (e | ⟨o, e⟩) | ⟨its, n, e, _⟩
      · exact .base (.lst e)
      · exact .base (.frz e)
      · exact .kList e rfl
  | ol e q => cases h; exact .base (.lst e)
inductive RepVs (K : PySem.W.Frag) (cs : Cst) (F H : Hp) : List D → List V → Prop where
  | nil : RepVs K cs F H [] []
  | cons {d : D} {v : V} {ds : List D} {vs : List V} : RepV K cs F H d v → RepVs K cs F H ds vs → RepVs K cs F H (d :: ds) (v :: vs)
def rIsiS (K : PySem.W.Frag) : List V → Hp → VK → Prop := fun xs H Q => ∃ x tp cs t ws b, xs = [x, .ref tp] ∧ SqT K H tp cs ∧ Paired ClsV cs ws ∧ TyX K H x t ∧ PySem.W.kitAny K t ws = some b ∧ Q (.bl b) H
theorem call_isiS : CallR X (.builtin "isinstance") (rIsiS X.K) := by
  intro pins s σ H xs us Q I r h
  obtain ⟨x, tp, cs, t, ws, b, rfl, hT, k, ty, e, q⟩ := h
  obtain ⟨u1, u2, rfl, r1, r2⟩ := vals2 r
  cases (show u2 = Value.ref tp from r2)
  obtain ⟨P, Z, p, hx⟩ := kit_of I r1 ty
  obtain ⟨its, rv, ⟨o, h1, h2, n, h3⟩, hz⟩ := I.tuple hT
  have e3 := ClsV.all k rv
  subst e3
  obtain ⟨oc, od, dt, sl⟩ := o
  simp only at h2 h3
  subst h2 h3
  exact PySem.W.kia_tup Z I.kIn p h1 e hx fun tk => ⟨.bl b, H, I.tok tk, rfl, q⟩
theorem isi_any {K : PySem.W.Frag} {g : String} : ∀ {ts : List D} {b : Bool} {vs : List V}, isiAny g ts = some b → RepDs K cs F ts vs → ∃ us, Paired ClsV vs us ∧ PySem.W.kitAny K (.type g) us = some b
  | [], b, _, h, .nil => ⟨[], .nil, by cases h; exact kitAny_nil⟩
  | .ty n :: ts, b, _, h, .cons q r => by
    cases q
    unfold isiAny at h
    split at h
    · rename_i e
      obtain ⟨c, hc, e2⟩ := Option.map_eq_some_iff.mp h
      subst e2
      obtain ⟨us, p, k⟩ := isi_any hc r
      exact ⟨.type n :: us, .cons (.ty n) p, kitAny_cons (kit_ty e) (fun z => by cases z) fun _ => rfl⟩
    · rename_i e
      obtain ⟨us, p, k⟩ := isi_any h r
      exact ⟨.type n :: us, .cons (.ty n) p, kitAny_cons (kit_ty e) (fun _ => k) fun z => by cases z⟩
    · cases h
  | .non :: _, _, _, h, _ => by cases h
  | .bl _ :: _, _, _, h, _ => by cases h
  | .int _ :: _, _, _, h, _ => by cases h
  | .str _ :: _, _, _, h, _ => by cases h
  | .tup _ :: _, _, _, h, _ => by cases h
  | .lst _ :: _, _, _, h, _ => by cases h
  | .dic _ :: _, _, _, h, _ => by cases h
  | .obj _ _ :: _, _, _, h, _ => by cases h
  | .cls _ :: _, _, _, h, _ => by cases h
theorem RepVs.one {K : PySem.W.Frag} {d : D} {xs : List V} (r : RepVs K cs F H [d] xs) : ∃ v, xs = [v] ∧ RepV K cs F H d v := by
  cases r with
  | cons h r => cases r; exact ⟨_, rfl, h⟩
theorem RepVs.two {K : PySem.W.Frag} {d e : D} {xs : List V} (r : RepVs K cs F H [d, e] xs) : ∃ v w, xs = [v, w] ∧ RepV K cs F H d v ∧ RepV K cs F H e w := by
  cases r with
  | cons h r =>
    cases r with
    | cons g r => cases r; exact ⟨_, _, rfl, h, g⟩
theorem bi_ok {n : Bi} {ds : List D} {t : T} {xs : List V} {Q : VK} (hc : X.calm = true) (h : biF n ds = some t) (r : Rel X.K cs F H env σ) (rs : RepVs X.K cs F H ds xs) (q : Gives X.K cs F H env σ t Q) :
    ∃ r : List V → Hp → VK → Prop, CallR X n.val r ∧ r xs H Q := by
  unfold biF at h
  split at h
  · cases h
    obtain ⟨v, rfl, rx⟩ := rs.one
    obtain ⟨p, vs, rfl, h1, r1⟩ := rx.sql r.fin
    exact ⟨_, call_len_seq, p, vs, rfl, .inl h1, q.stay r (by rw [← r1.length]; exact .int _)⟩
  · cases h
    obtain ⟨v, rfl, rx⟩ := rs.one
    obtain ⟨p, vs, rfl, h1, r1⟩ := rx.sqt r.fin
    exact ⟨_, call_len_seq, p, vs, rfl, .inr h1, q.stay r (by rw [← r1.length]; exact .int _)⟩
  · split at h
    · rename_i hz
      cases h
      obtain ⟨v, rfl, rx⟩ := rs.one
      cases rx.str
      exact ⟨_, call_len_str, _, rfl, hz, q.stay r (.int _)⟩
    · cases h
  · cases h
    obtain ⟨v, rfl, rx⟩ := rs.one
    obtain ⟨p, vs, rfl, h1, r1⟩ := rx.sql r.fin
    exact ⟨_, call_list_of, p, vs, rfl, .inl h1, q.lst r r1⟩
  · cases h
    obtain ⟨v, rfl, rx⟩ := rs.one
    obtain ⟨p, vs, rfl, h1, r1⟩ := rx.sqt r.fin
    exact ⟨_, call_list_of, p, vs, rfl, .inr h1, q.lst r r1⟩
  · cases h
    obtain ⟨v, rfl, rx⟩ := rs.one
    obtain ⟨p, vs, rfl, h1, r1⟩ := rx.sql r.fin
    exact ⟨_, call_tuple_of, p, vs, rfl, .inl ⟨h1, q.tup r r1⟩⟩
  · cases h
    obtain ⟨v, rfl, rx⟩ := rs.one
    obtain ⟨p, vs, rfl, h1, r1⟩ := rx.sqt r.fin
    refine ⟨_, call_tuple_of, p, vs, rfl, .inr ⟨h1, ?_⟩⟩
    cases rx with
    | fz h => exact q.stay r h
  · split at h
    · rename_i c
      cases h
      obtain ⟨v, rfl, rx⟩ := rs.one
      obtain ⟨p, vs, rfl, h1, r1⟩ := rx.sql r.fin
      rw [r1.bls c] at h1
      exact ⟨_, cr_all hc, p, _, rfl, h1, by rw [List.all_map]; exact q.stay r (.bl _)⟩
    · cases h
  · split at h
    · rename_i c
      cases h
      obtain ⟨v, rfl, rx⟩ := rs.one
      obtain ⟨p, vs, rfl, h1, r1⟩ := rx.sql r.fin
      rw [r1.bls c] at h1
      exact ⟨_, cr_any hc, p, _, rfl, h1, by rw [List.any_map]; exact q.stay r (.bl _)⟩
    · cases h
  · split at h
    · rename_i c
      cases h
      obtain ⟨v, rfl, rx⟩ := rs.one
      obtain ⟨p, vs, rfl, h1, r1⟩ := rx.sql r.fin
      rw [r1.ints c] at h1
      exact ⟨_, cr_sum hc, p, _, rfl, h1, q.stay r (.int _)⟩
    · cases h
  · split at h
    · rename_i c
      cases h
      obtain ⟨v, rfl, rx⟩ := rs.one
      obtain ⟨p, vs, rfl, h1, r1⟩ := rx.sqt r.fin
      rw [r1.ints c] at h1
      exact ⟨_, cr_sumT hc, p, _, rfl, h1, q.stay r (.int _)⟩
    · cases h
  · cases h
    obtain ⟨v, rfl, rx⟩ := rs.one
    cases rx.int
    exact ⟨_, call_abs, _, rfl, q.stay r (.int _)⟩
  · cases h
    obtain ⟨v, rfl, rx⟩ := rs.one
    cases rx.int
    exact ⟨_, call_int1, .inl ⟨_, rfl, q.stay r (.int _)⟩⟩
  · cases h
    obtain ⟨v, rfl, rx⟩ := rs.one
    cases rx.bl
    exact ⟨_, call_int1, .inr ⟨_, rfl, q.stay r (.int _)⟩⟩
  · cases h
    obtain ⟨v, w, rfl, rx, ry⟩ := rs.two
    cases rx.int
    cases ry.int
    exact ⟨_, call_min2 hc, _, _, rfl, q.stay r (.int _)⟩
  · cases h
    obtain ⟨v, w, rfl, rx, ry⟩ := rs.two
    cases rx.int
    cases ry.int
    exact ⟨_, call_max2 hc, _, _, rfl, q.stay r (.int _)⟩
  · split at h
    · rename_i g eg
      obtain ⟨b, hb, e⟩ := Option.map_eq_some_iff.mp h
      subst e
      obtain ⟨v, w, rfl, rx, ry⟩ := rs.two
      cases ry.ty
      exact ⟨_, call_isi, v, _, .type g, _, b, rfl, .ty _, rx.tyX r.fin eg, kit_ty hb, q.stay r (.bl b)⟩
    · cases h
  · split at h
    · rename_i ts g eg
      obtain ⟨b, hb, e⟩ := Option.map_eq_some_iff.mp h
      subst e
      obtain ⟨v, w, rfl, rx, ry⟩ := rs.two
      cases ry with
      | fz ry =>
        cases ry with
        | tup a r1 =>
          obtain ⟨us, p, k⟩ := isi_any (K := X.K) hb r1
          exact ⟨_, call_isiS, v, _, _, .type g, us, b, rfl, r.fin.sqt a, p, rx.tyX r.fin eg, k, q.stay r (.bl b)⟩
    · cases h
  · cases h
theorem un_ok {i : Int} {x : V} {Q : VK} (r : Rel X.K cs F H env σ) (rx : RepV X.K cs F H (.int i) x) (q : Gives X.K cs F H env σ (.d (.int (-i))) Q) : ∃ r : V → Hp → VK → Prop, UnR X (unaryOp .USub) r ∧ r x H Q := by
  cases rx.int
  exact ⟨_, un_neg, _, rfl, q.stay r (.int _)⟩
end
end AM

set_option maxHeartbeats 4000000
/-! the core text against the row's own text, sign by sign -/
namespace AM
open PySem PyProof.Rows L2

/-- the names of the text: of the defs, of the built-ins that are free, of the constants, of the error classes; which of these have no __init__ -/
structure Ck where
  nm : List Str
  fr : List Str
  gl : List Str
  xc : List Str
  xp : List Nat

def visB (sc : Scope) (x : Str) : Bool := match sc.names.lookup x with
  | some .local => true | some .cell => true | some .free => true
  | _ => false
def locB (sc : Scope) (x : Str) : Bool := match sc.names.lookup x with
  | some .local => true | some .cell => true
  | _ => false
def lclB (sc : Scope) (x : Str) : Bool := match sc.names.lookup x with
  | some .local => true
  | _ => false
def glB (sc : Scope) (x : Str) : Bool := (match sc.names.lookup x with
  | some .globalImplicit => true
  | _ => false) && !(x == ("__debug__" : Str)) && !(x == ("__name__" : Str))
def nameB (N : List Str) (sc : Scope) (i : Nat) (x : Str) : Bool := decide (N[i]? = some x) && visB sc x && !(x == ("__debug__" : Str)) && !(x == ("__classdict__" : Str))
def cstB : D → Const → Bool
  | .non, .none => true
  | .bl b, .bool c => b == c
  | .int i, .int j => i == j
  | .str x, .str y => decide (x = y)
  | _, _ => false
def isSet : Expr → Bool
  | .Set _ _ _ => true
  | _ => false
def isSlice : Expr → Bool
  | .Slice _ _ _ _ => true
  | _ => false
/-- a test that is just an expression's truth -/
def plainT : Expr → Bool
  | .UnaryOp .Not _ _ => false
  | .BoolOp _ _ _ => false
  | .IfExp _ _ _ _ => false
  | .Compare _ _ _ _ => false
  | _ => true
mutual
def chkPt (N : List Str) (sc : Scope) : Pt → Expr → Bool
  | .name i, .Name x _ => decide (N[i]? = some x) && locB sc x
  | .tup ps, .Tuple es _ _ => chkPts N sc ps es
  | _, _ => false
def chkPts (N : List Str) (sc : Scope) : Pts → List Expr → Bool
  | .nil, [] => true
  | .cons p ps, e :: es => chkPt N sc p e && chkPts N sc ps es
  | _, _ => false
end
def isTup : Expr → Bool
  | .Tuple _ _ _ => true
  | _ => false
/-- pairs are taken apart at once -/
def tgtB : It → Expr → Bool
  | .enum _, e => isTup e
  | .zip _, e => isTup e
  | _, _ => true
mutual
def chkE (G : Ck) (N : List Str) (sc : Scope) (t : Bool) : E → Expr → Bool
  | .cst d, .Constant c _ _ => cstB d c
  | .var i, .Name x _ => nameB N sc i x
  | .vw i, .Name x _ => nameB N sc i x
  | .glob x, .Name y _ => decide (x = y) && glB sc y && decide (y ∈ G.gl)
  | .prim p es, .BinOp x o y _ => (match p with | .bin o' => decide (o' = o) | _ => false) && chkEs G N sc es [x, y]
  | .prim p es, .UnaryOp .USub x _ => (match p with | .neg => true | _ => false) && chkEs G N sc es [x]
  | .prim p es, .Compare x [o] [y] _ => (match p with | .cmp o' => decide (o' = o) | _ => false) && !isSet y && chkEs G N sc es [x, y]
  | .sl e lo hi, .Subscript x (.Slice a b none _) _ => chkE G N sc false e x && chkP G N sc lo a && chkP G N sc hi b
  | .prim p es, .Subscript x y _ => (match p with | .ix => true | _ => false) && !isSlice y && chkEs G N sc es [x, y]
  | .prim p es, .Call (.Name x _) (a :: as) [] _ => (match p with | .bi n => decide (x = Str.ofString n.name) | _ => false) && glB sc x && decide (x ∈ G.fr) && chkEs G N sc es (a :: as)
  | .prim p es, .Tuple xs _ _ => (match p with | .tup => true | _ => false) && es.slots.all Option.isNone && chkEs G N sc es xs
  | .prim p es, .List xs _ => (match p with | .lst => true | _ => false) && es.slots.all Option.isNone && chkEs G N sc es xs
  | .prim p es, .Dict [] [] _ => (match p with | .dic => true | _ => false) && (match es with | .nil => true | _ => false)
  | .and a b, .BoolOp .And (x :: y :: r) pos => chkE G N sc t a x && chkE G N sc t b (.BoolOp .And (y :: r) pos)
  | .or a b, .BoolOp .Or (x :: y :: r) pos => chkE G N sc t a x && chkE G N sc t b (.BoolOp .Or (y :: r) pos)
  | .one a, .BoolOp _ [x] _ => chkE G N sc t a x
  | .not a, .UnaryOp .Not x _ => chkE G N sc t a x
  | .ife c a b, .IfExp c' a' b' _ => !t && chkE G N sc true c c' && chkE G N sc false a a' && chkE G N sc false b b'
  | .chain o1 o2 a b c, .Compare a' [o1', o2'] [b', c'] _ => decide (o1 = o1') && decide (o2 = o2') && !isSet b' && !isSet c' && chkE G N sc false a a' && chkE G N sc false b b' && chkE G N sc false c c'
  | .call f es, .Call (.Name x _) as [] _ => decide (G.nm[f]? = some x) && glB sc x && chkEs G N sc es as
  | .lc own p it ifs e, .ListComp elt [⟨tg, iter, ifs', 0⟩] scope _ => blkC N sc scope own && chkPt N scope p tg && tgtB it tg && decide (∀ i ∈ p.slots, i ∈ own.map (·.2)) && chkI G N sc it iter && chkO G N (relS scope sc) ifs ifs' && chkE G N (relS scope sc) false e elt
  | .pop i es, .Call (.Attribute (.Name x _) m apos) as [] pos => nameB N sc i x && decide (m = Str.ofString "pop") && (apos.endLine == pos.line) && decide (as.length ≤ 1) && chkEs G N sc es as
  | .tru a, x => t && plainT x && chkE G N sc false a x
  | _, _ => false
def chkO (G : Ck) (N : List Str) (sc : Scope) : Oe → List Expr → Bool
  | .no, [] => true
  | .yes c, [x] => chkE G N sc true c x
  | _, _ => false
def chkP (G : Ck) (N : List Str) (sc : Scope) : Oe → Option Expr → Bool
  | .no, none => true
  | .yes c, some x => chkE G N sc false c x
  | _, _ => false
def chkEs (G : Ck) (N : List Str) (sc : Scope) : Es → List Expr → Bool
  | .nil, [] => true
  | .cons e es, x :: xs => chkE G N sc false e x && chkEs G N sc es xs
  | _, _ => false
def chkI (G : Ck) (N : List Str) (sc : Scope) : It → Expr → Bool
  | .seq e, x => !isSet x && chkE G N sc false e x
  | .rng es, .Call (.Name x _) as [] _ => decide (x = ("range" : Str)) && glB sc x && decide (x ∈ G.fr) && (as.length == 1 || as.length == 2) && chkEs G N sc es as
  | .enum e, .Call (.Name x _) [a] [] _ => decide (x = ("enumerate" : Str)) && glB sc x && decide (x ∈ G.fr) && chkE G N sc false e a
  | .zip es, .Call (.Name x _) [a, b] [] _ => decide (x = ("zip" : Str)) && glB sc x && decide (x ∈ G.fr) && chkEs G N sc es [a, b]
  | _, _ => false
end
end AM

set_option maxHeartbeats 4000000
/-! how an answer of the evaluator is read as a wish -/
namespace AM
open PySem PySem.Spec PyProof.Rows L2

/-- an error: its class, its own dict with its fields -/
def RepX (K : PySem.W.Frag) (cs : Cst) (F H : Hp) (x : AM.X) (cl : Value) (d : Option Addr) : Prop := ∃ a, cs x.c = some a ∧ cl = .ref a ∧ x.ds = [] ∧ d = none

def Fit {α : Type} (r : R α) (Wx : AM.X → AM.Env → Prop) (Kk : α → AM.Env → Prop) : Prop := match r with
  | .ok a env => Kk a env
  | .ex x env => Wx x env
  | .no => False
theorem Fit.bind {α β : Type} {r : R α} {f : α → AM.Env → R β} {Wx : AM.X → AM.Env → Prop} {Kk : β → AM.Env → Prop} (h : Fit (r.bind f) Wx Kk) : Fit r Wx fun a env => Fit (f a env) Wx Kk := by
  cases r <;> exact h
theorem Fit.mono {α : Type} {r : R α} {Wx Wx' : AM.X → AM.Env → Prop} {Kk Kk' : α → AM.Env → Prop} (h : Fit r Wx Kk) (hw : ∀ x env, Wx x env → Wx' x env) (hk : ∀ a env, Kk a env → Kk' a env) : Fit r Wx' Kk' := by
  cases r with
  | ok a env => exact hk _ _ h
  | ex x env => exact hw _ _ h
  | no => exact h

section
variable {K : PySem.W.Frag} {cs : Cst} {C : Cl} {W : WX} {F H F1 H1 : Hp} {env env1 : AM.Env} {σ : L2.St}

def WxOf (W : WX) (K : PySem.W.Frag) (cs : Cst) (F H : Hp) (env : AM.Env) (σ : L2.St) : AM.X → AM.Env → Prop := fun x env' =>
  ∀ cl d F' H', Ext F H (Own env σ) F' H' (Own env' σ) → Rel K cs F' H' env' σ → RepX K cs F' H' x cl d → W cl d σ H'
def KeOf (K : PySem.W.Frag) (cs : Cst) (F H : Hp) (env : AM.Env) (σ : L2.St) (Q : VK) : T → AM.Env → Prop := fun t env' => ∀ v F' H', Post K cs F H env σ F' H' env' t v → Q v H'
def KbOf (K : PySem.W.Frag) (cs : Cst) (F H : Hp) (env : AM.Env) (σ : L2.St) (Q : Bool → Hp → Prop) : Bool → AM.Env → Prop := fun b env' => ∀ F' H', Ext F H (Own env σ) F' H' (Own env' σ) → Rel K cs F' H' env' σ → Q b H'
theorem WxOf.move (x : Ext F H (Own env σ) F1 H1 (Own env1 σ)) {e : AM.X} {env' : AM.Env} (h : WxOf W K cs F H env σ e env') : WxOf W K cs F1 H1 env1 σ e env' := fun cl d F' H' x2 r q => h cl d F' H' (x.trans x2) r q
theorem KeOf.move {Q : VK} (x : Ext F H (Own env σ) F1 H1 (Own env1 σ)) {t : T} {env' : AM.Env} (h : KeOf K cs F H env σ Q t env') : KeOf K cs F1 H1 env1 σ Q t env' := fun v F' H' p => h v F' H' (p.after x)
theorem KbOf.move {Q : Bool → Hp → Prop} (x : Ext F H (Own env σ) F1 H1 (Own env1 σ)) {t : Bool} {env' : AM.Env} (h : KbOf K cs F H env σ Q t env') : KbOf K cs F1 H1 env1 σ Q t env' := fun F' H' x2 r => h F' H' (x.trans x2) r

/-- the readings -/
def tE (W : WX) (K : PySem.W.Frag) (cs : Cst) (C : Cl) (c : E) : TE := fun σ H Q => ∃ F env, Rel K cs F H env σ ∧ Fit (evE C c env) (WxOf W K cs F H env σ) (KeOf K cs F H env σ Q)
def tT (W : WX) (K : PySem.W.Frag) (cs : Cst) (C : Cl) (c : E) : TT := fun σ H Q => ∃ F env, Rel K cs F H env σ ∧ Fit ((evE C c env).bl) (WxOf W K cs F H env σ) (KbOf K cs F H env σ Q)
def tO (W : WX) (K : PySem.W.Frag) (cs : Cst) (C : Cl) (c : E) : TE := match slotOf c with
  | some i => tVar i
  | none => tE W K cs C c
def tOs (W : WX) (K : PySem.W.Frag) (cs : Cst) (C : Cl) : Es → TA
  | .nil => tNil
  | .cons e es => tCons (tO W K cs C e) (tOs W K cs C es)
theorem tE.mono {c : E} {Q Q' : VK} (h : tE W K cs C c σ H Q) (q : ∀ v H', Q v H' → Q' v H') : tE W K cs C c σ H Q' := by
  obtain ⟨F, env, r, f⟩ := h
  exact ⟨F, env, r, f.mono (fun _ _ z => z) fun t env' z v F' H' p => q _ _ (z v F' H' p)⟩
theorem tO.mono {c : E} {Q Q' : VK} (h : tO W K cs C c σ H Q) (q : ∀ v H', Q v H' → Q' v H') : tO W K cs C c σ H Q' := by
  unfold tO at h ⊢
  cases hs : slotOf c with
  | some i =>
    rw [hs] at h
    obtain ⟨v, e, z⟩ := h
    exact ⟨v, e, q _ _ z⟩
  | none =>
    rw [hs] at h
    exact tE.mono h q
theorem tOs.mono : ∀ {es : Es} {H : Hp} {Q Q' : List V → Hp → Prop}, tOs W K cs C es σ H Q → (∀ v H', Q v H' → Q' v H') → tOs W K cs C es σ H Q'
  | .nil, _, _, _, h, q => q _ _ h
  | .cons e es, _, _, _, h, q => tO.mono h fun v H' z => tOs.mono z fun vs H2 z => q _ _ z
theorem slotOf_some : ∀ {e : E} {i : Nat}, slotOf e = some i → e = .vw i := fun {e i} h => by
  cases e <;> first | (cases h; done) | (cases h; rfl)
theorem Rel.get {i : Nat} {t : T} (r : Rel K cs F H env σ) (h : env.getD i none = some t) : ∃ v, σ[i]? = some (some v) ∧ RepT K cs F H t v := by
  refine r.slot i t ?_
  rw [List.getD_eq_getElem?_getD] at h
  cases e : env[i]? with
  | none => rw [e] at h; cases h
  | some o =>
    rw [e] at h
    have h : o = some t := h
    rw [h]
theorem getD_some {i : Nat} {t : T} (h : env.getD i none = some t) : env[i]? = some (some t) := by
  rw [List.getD_eq_getElem?_getD] at h
  cases e : env[i]? with
  | none => rw [e] at h; cases h
  | some o =>
    rw [e] at h
    have h : o = some t := h
    rw [h]
/-- from a state, a value frozen: the state that keeps it -/
theorem RepV.mono {F' : Hp} {d : D} {v : V} (h : RepD K cs F d v) (s : Sub F F') {H' : Hp} : RepV K cs F' H' d v := .fz (h.mono s)

/-- the operands, from the left; what is only looked at is looked at behind all of them -/
theorem ops_run : ∀ (es : Es) {F H : Hp} {env : AM.Env} {Kk : List D → AM.Env → Prop}, Rel K cs F H env σ → Fit (evEs C es env) (WxOf W K cs F H env σ) Kk →
    tOs W K cs C es σ H fun xs H2 => ∃ F2 ds env2, Ext F H (Own env σ) F2 H2 (Own env2 σ) ∧ Rel K cs F2 H2 env2 σ ∧ RepVs K cs F2 H2 ds xs ∧ Kk ds env2
  | .nil, F, H, env, Kk, r, f => ⟨F, [], env, Ext.refl _ _ _, r, .nil, f⟩
  | .cons e es, F, H, env, Kk, r, f => by
    unfold evEs at f
    cases hs : slotOf e with
    | some i =>
      rw [hs] at f
      simp only at f
      show tO W K cs C e σ H _
      unfold tO
      rw [hs]
      split at f
      · rename_i t0 h0
        obtain ⟨v, hv, _⟩ := r.get h0
        refine ⟨v, hv, tOs.mono (ops_run es r f.bind) fun xs H2 ⟨F2, ds, env2, x, r2, rs, k⟩ => ?_⟩
        split at k
        · rename_i t ht
          obtain ⟨w, hw, rt⟩ := r2.get ht
          rw [hv] at hw; cases hw
          exact ⟨F2, _, env2, x, r2, .cons rt.snap rs, k⟩
        · exact k.elim
      · exact f.elim
    | none =>
      rw [hs] at f
      simp only at f
      show tO W K cs C e σ H _
      unfold tO
      rw [hs]
      refine ⟨F, env, r, f.bind.mono (fun _ _ z => z) fun t env1 g v F1 H1 p => ?_⟩
      obtain ⟨F2, p2, s⟩ := p.kept
      refine tOs.mono (ops_run es p2.rel (g.bind.mono (fun _ _ z => WxOf.move p2.ext z) fun _ _ z => z)) fun xs H2 ⟨F3, ds, env2, x, r2, rs, k⟩ => ?_
      exact ⟨F3, _, env2, p2.ext.trans x, r2, .cons (.fz (RepD.mono x.fr p2.rep)) rs, k⟩
end
end AM

set_option maxHeartbeats 4000000
/-! calls: what is handed in, what is handed back -/
namespace AM
open PySem PySem.Spec PyProof.Rows L2

def spreadE (n : Nat) (io : List Nat) (outs : AM.Env) : AM.Env := (List.range n).map fun j => match (io.zip outs).lookup j with
  | some o => o
  | none => none
theorem spreadE_length (n : Nat) (io : List Nat) (outs : AM.Env) : (spreadE n io outs).length = n := by simp [spreadE]
theorem spreadE_some {n : Nat} {io : List Nat} {outs : AM.Env} {j : Nat} {t : T} (h : (spreadE n io outs)[j]? = some (some t)) : j < n ∧ (io.zip outs).lookup j = some (some t) := by
  unfold spreadE at h
  rw [List.getElem?_map] at h
  cases e : (List.range n)[j]? with
  | none => rw [e] at h; cases h
  | some i =>
    rw [e] at h
    have hj : j < n := by
      have := (List.getElem?_eq_some_iff.mp e).1
      simpa using this
    have ij : i = j := by
      have := (List.getElem?_eq_some_iff.mp e).2
      simpa using this.symm
    subst ij
    refine ⟨hj, ?_⟩
    cases q : (io.zip outs).lookup i with
    | none =>
      rw [Option.map_some, q] at h
      cases h
    | some o =>
      rw [Option.map_some, q] at h
      cases h
      rfl
theorem lookup_mem {α : Type} : ∀ {l : List (Nat × α)} {j : Nat} {o : α}, l.lookup j = some o → (j, o) ∈ l
  | [], _, _, h => by cases h
  | (a, b) :: l, j, o, h => by
    rw [List.lookup_cons] at h
    split at h
    · rename_i e
      cases h
      have : j = a := by simpa using e
      subst this
      exact List.mem_cons_self
    · exact List.mem_cons_of_mem _ (lookup_mem h)
theorem mem_lookup {α : Type} : ∀ {l : List (Nat × α)} {j : Nat} {o : α}, (j, o) ∈ l → (l.map (·.1)).Nodup → l.lookup j = some o
  | [], _, _, h, _ => by cases h
  | (a, b) :: l, j, o, h, nd => by
    rw [List.lookup_cons]
    rw [List.map_cons, List.nodup_cons] at nd
    rcases List.mem_cons.mp h with e | e
    · cases e
      simp
    · have ne : (j == a) = false := by
        rw [beq_eq_false_iff_ne]
        intro z
        subst z
        exact nd.1 (List.mem_map.mpr ⟨(j, o), e, rfl⟩)
      rw [ne]
      exact mem_lookup e nd.2
theorem zip_fst_sub {α : Type} : ∀ (l : List Nat) (m : List α), ((l.zip m).map (·.1)).Sublist l
  | [], _ => by simp
  | _ :: _, [] => by simp
  | a :: l, b :: m => by
    rw [List.zip_cons_cons, List.map_cons]
    exact (zip_fst_sub l m).cons₂ a

section
variable {sl : List (Option Nat)}
theorem putOuts_length : ∀ (io : List Nat) (outs env : AM.Env), (putOuts io outs sl env).length = env.length
  | [], _, _ => by simp [putOuts]
  | _ :: _, [], _ => by simp [putOuts]
  | j :: io, o :: outs, env => by
    unfold putOuts
    rw [putOuts_length io outs]
    split <;> simp
theorem putOuts_out {i : Nat} : ∀ (io : List Nat) (outs env : AM.Env), (∀ j o, (j, o) ∈ io.zip outs → sl.getD j none ≠ some i) → (putOuts io outs sl env)[i]? = env[i]?
  | [], _, _, _ => by simp [putOuts]
  | _ :: _, [], _, _ => by simp [putOuts]
  | j :: io, o :: outs, env, h => by
    unfold putOuts
    rw [putOuts_out io outs _ fun j' o' hm => h j' o' (by rw [List.zip_cons_cons]; exact List.mem_cons_of_mem _ hm)]
    have hj := h j o (by rw [List.zip_cons_cons]; exact List.mem_cons_self)
    split
    · rename_i i' e
      rw [e] at hj
      rw [List.getElem?_set_ne (fun z => hj (by rw [z]))]
    · rfl
theorem putOuts_in {i j : Nat} {o : Option T} : ∀ (io : List Nat) (outs env : AM.Env), (j, o) ∈ io.zip outs → sl.getD j none = some i → (io.map fun j => sl.getD j none).Nodup → i < env.length → (putOuts io outs sl env)[i]? = some o
  | [], _, _, h, _, _, _ => by simp at h
  | _ :: _, [], _, h, _, _, _ => by simp at h
  | j' :: io, o' :: outs, env, h, e, nd, hi => by
    unfold putOuts
    rw [List.map_cons, List.nodup_cons] at nd
    rw [List.zip_cons_cons] at h
    rcases List.mem_cons.mp h with q | q
    · cases q
      rw [putOuts_out io outs]
      · rw [e]
        simp [hi]
      · intro j2 o2 hm z
        exact nd.1 (List.mem_map.mpr ⟨j2, (zip_fst_sub io outs).subset (List.mem_map.mpr ⟨_, hm, rfl⟩), by rw [e, z]⟩)
    · refine putOuts_in io outs _ q e nd.2 ?_
      split <;> simpa using hi
end

/-- what a def promises: as the evaluator answers -/
def spF (P : Tx) (k f : Nat) (K : PySem.W.Frag) (cs : Cst) (np : Nat) : Sp := fun vs H Q E => ∃ F ts, ts.length = np ∧ Rel K cs F H (ts.map some) (vs.map some) ∧
  Fit (P.call k f ts) (fun x outs => WxOf (fun cl d _ H' => E cl d H') K cs F H (ts.map some) (vs.map some) x (spreadE np (P.io f) outs))
    (fun t outs => KeOf K cs F H (ts.map some) (vs.map some) Q t (spreadE np (P.io f) outs))
theorem spF_len {P : Tx} {k f : Nat} {K : PySem.W.Frag} {cs : Cst} {np : Nat} {vs : List V} {H : Hp} {Q : VK} {E : XK} (h : spF P k f K cs np vs H Q E) : vs.length = np := by
  obtain ⟨F, ts, e, r, _⟩ := h
  have := r.len
  rw [List.length_map, List.length_map] at this
  omega

section
variable {K : PySem.W.Frag} {cs : Cst} {F H F' H' : Hp} {env : AM.Env} {σ : L2.St} {io : List Nat} {sl : List (Option Nat)} {ts : List T} {vs : List V} {outs : AM.Env} {n : Nat}

/-- how the arguments lie: those that are slots, those that are values -/
structure Args (env : AM.Env) (σ : L2.St) (sl : List (Option Nat)) (ts : List T) (vs : List V) : Prop where
  len : ts.length = vs.length
  len2 : sl.length = ts.length
  at_ : ∀ (j i : Nat), sl.getD j none = some i → ∃ t v, ts[j]? = some t ∧ vs[j]? = some v ∧ env[i]? = some (some t) ∧ σ[i]? = some (some v)
  val : ∀ (j : Nat) (t : T), ts[j]? = some t → sl.getD j none = none → t.own = false
theorem Args.own (A : Args env σ sl ts vs) {p : Addr} (h : Own (ts.map some) (vs.map some) p) : ∃ j i, sl.getD j none = some i ∧ vs[j]? = some (.ref p) ∧ Own env σ p ∧ σ[i]? = some (some (.ref p)) := by
  obtain ⟨j, t, e, ow, ev⟩ := h
  rw [List.getElem?_map] at e ev
  have e1 : ts[j]? = some t := by
    cases q : ts[j]? with
    | none => rw [q] at e; cases e
    | some u => rw [q] at e; cases e; rfl
  have e2 : vs[j]? = some (.ref p) := by
    cases q : vs[j]? with
    | none => rw [q] at ev; cases ev
    | some u => rw [q] at ev; cases ev; rfl
  cases hs : sl.getD j none with
  | none => rw [A.val j t e1 hs] at ow; cases ow
  | some i =>
    obtain ⟨t', v', a, b, c, d⟩ := A.at_ j i hs
    rw [e1] at a; cases a
    rw [e2] at b; cases b
    exact ⟨j, i, hs, e2, ⟨i, t, c, ow, d⟩, d⟩
theorem ioOk_of (h : ioOk io sl = true) : (∀ j ∈ io, ∃ i, sl.getD j none = some i) ∧ (io.map fun j => sl.getD j none).Nodup ∧ ∀ j i, sl.getD j none = some i → j ∈ io := by
  unfold ioOk at h
  rw [Bool.and_eq_true, Bool.and_eq_true] at h
  obtain ⟨⟨h1, h2⟩, h3⟩ := h
  refine ⟨fun j hj => Option.isSome_iff_exists.mp (List.all_eq_true.mp h1 j hj), of_decide_eq_true h2, fun j i e => ?_⟩
  rw [List.getD_eq_getElem?_getD] at e
  cases q : sl[j]? with
  | none => rw [q] at e; cases e
  | some o =>
    rw [q] at e
    have e : o = some i := e
    subst e
    have hj : j < sl.length := (List.getElem?_eq_some_iff.mp q).1
    have hm : (some i, j) ∈ sl.zipIdx := by
      rw [List.mem_zipIdx_iff_getElem?]
      simpa using q
    have := List.all_eq_true.mp h3 _ hm
    simpa using this
/-- the caller's state behind a call that may change what its slots hold -/
theorem call_state (r : Rel K cs F H env σ) (A : Args env σ sl ts vs) (ok : ioOk io sl = true) (lo : outs.length = io.length) (x : Ext F H (Own (ts.map some) (vs.map some)) F' H' (Own (spreadE ts.length io outs) (vs.map some)))
    (r2 : Rel K cs F' H' (spreadE ts.length io outs) (vs.map some)) : Ext F H (Own env σ) F' H' (Own (putOuts io outs sl env) σ) ∧ Rel K cs F' H' (putOuts io outs sl env) σ ∧
      ∀ p, Own (putOuts io outs sl env) σ p → Own (spreadE ts.length io outs) (vs.map some) p ∨ (Own env σ p ∧ ¬ Own (ts.map some) (vs.map some) p) := by
  obtain ⟨h1, h2, h3⟩ := ioOk_of ok
  have ndio : (((io.zip outs)).map (·.1)).Nodup := by
    refine (zip_fst_sub io outs).nodup ?_
    exact (List.pairwise_map.mp h2).imp fun ne z => ne (by rw [z])
  -- a slot of the new state: either one that was handed in, or as it was
  have cls : ∀ (i : Nat) (t : T), (putOuts io outs sl env)[i]? = some (some t) →
      (∃ j v, sl.getD j none = some i ∧ (spreadE ts.length io outs)[j]? = some (some t) ∧ vs[j]? = some v ∧ σ[i]? = some (some v)) ∨
      (env[i]? = some (some t) ∧ ∀ j o, (j, o) ∈ io.zip outs → sl.getD j none ≠ some i) := by
    intro i t e
    by_cases q : ∃ j o, (j, o) ∈ io.zip outs ∧ sl.getD j none = some i
    · obtain ⟨j, o, hm, es⟩ := q
      left
      obtain ⟨t0, v, a, b, c, d⟩ := A.at_ j i es
      have hi : i < env.length := (List.getElem?_eq_some_iff.mp c).1
      have hj : j < ts.length := (List.getElem?_eq_some_iff.mp a).1
      rw [putOuts_in io outs env hm es h2 hi] at e
      cases e
      refine ⟨j, v, es, ?_, b, d⟩
      unfold spreadE
      rw [List.getElem?_map, List.getElem?_range hj, Option.map_some, mem_lookup hm ndio]
    · right
      have q' : ∀ j o, (j, o) ∈ io.zip outs → sl.getD j none ≠ some i := fun j o hm z => q ⟨j, o, hm, z⟩
      rw [putOuts_out io outs env q'] at e
      exact ⟨e, q'⟩
  have zipm : ∀ j ∈ io, ∃ o, (j, o) ∈ io.zip outs := fun j hj => by
    obtain ⟨n, hn, e⟩ := List.mem_iff_getElem.mp hj
    refine ⟨outs[n]'(by omega), ?_⟩
    refine List.mem_iff_getElem.mpr ⟨n, by rw [List.length_zip]; omega, ?_⟩
    rw [List.getElem_zip, e]
  have stay : ∀ (i : Nat) (t : T) (p : Addr), env[i]? = some (some t) → (∀ j o, (j, o) ∈ io.zip outs → sl.getD j none ≠ some i) → t.own = true → σ[i]? = some (some (.ref p)) → ¬ Own (ts.map some) (vs.map some) p := by
    intro i t p e q ow es z
    obtain ⟨j, i', hs, _, ⟨i2, t2, e2, ow2, es2⟩, es'⟩ := A.own z
    obtain ⟨t3, v3, a3, b3, c3, d3⟩ := A.at_ j i' hs
    have hj : j ∈ io := h3 j i' hs
    obtain ⟨o, ho⟩ := zipm j hj
    have i12 : i2 = i := r.sep i2 i t2 t p e2 e ow2 ow es2 es
    obtain ⟨j4, t4, e4, ow4, ev4⟩ := z
    -- the slot of that argument holds p, and so does slot i
    have hjo : Own env σ p := ⟨i, t, e, ow, es⟩
    have t3own : t3.own = true := by
      cases q3 : t3.own with
      | true => rfl
      | false =>
        exfalso
        rw [List.getElem?_map] at e4 ev4
        cases q4 : ts[j4]? with
        | none => rw [q4] at e4; cases e4
        | some u =>
          rw [q4] at e4; cases e4
          cases q5 : vs[j4]? with
          | none => rw [q5] at ev4; cases ev4
          | some w =>
            rw [q5] at ev4; cases ev4
            cases hs4 : sl.getD j4 none with
            | none => rw [A.val j4 t4 q4 hs4] at ow4; cases ow4
            | some i4 =>
              obtain ⟨t5, v5, a5, b5, c5, d5⟩ := A.at_ j4 i4 hs4
              rw [q4] at a5; cases a5
              rw [q5] at b5; cases b5
              have : i4 = i := r.sep i4 i t4 t p c5 e ow4 ow d5 es
              subst this
              obtain ⟨o4, ho4⟩ := zipm j4 (h3 j4 i4 hs4)
              exact q j4 o4 ho4 hs4
    have : i' = i := r.sep i' i t3 t p c3 e t3own ow es' es
    subst this
    exact q j o ho hs
  have third : ∀ p, Own (putOuts io outs sl env) σ p → Own (spreadE ts.length io outs) (vs.map some) p ∨ (Own env σ p ∧ ¬ Own (ts.map some) (vs.map some) p) := by
    rintro p ⟨i, t, e, ow, es⟩
    rcases cls i t e with ⟨j, v, hs, sp, hv, hσ⟩ | ⟨e1, q⟩
    · left
      rw [hσ] at es; cases es
      exact ⟨j, t, sp, ow, by rw [List.getElem?_map, hv]; rfl⟩
    · exact .inr ⟨⟨i, t, e1, ow, es⟩, stay i t p e1 q ow es⟩
  have backO : ∀ p, Own (ts.map some) (vs.map some) p ∨ H p = none → Own env σ p ∨ H p = none := fun p h => by
    rcases h with h | h
    · obtain ⟨_, _, _, _, o, _⟩ := A.own h
      exact .inl o
    · exact .inr h
  refine ⟨⟨x.fr, fun p o e n => x.keep p o e fun z => ?_, fun p a b => backO p (x.new p a b), fun p h => ?_⟩, ⟨?_, r2.fin, fun i t e => ?_, fun i j t u p e1 e2 o1 o2 s1 s2 => ?_⟩, third⟩
  · obtain ⟨_, _, _, _, o, _⟩ := A.own z
    exact n o
  · rcases third p h with q | q
    · exact backO p (x.own p q)
    · exact .inl q.1
  · rw [putOuts_length]
    exact r.len
  · rcases cls i t e with ⟨j, v, hs, sp, hv, hσ⟩ | ⟨e1, q⟩
    · obtain ⟨w, hw, rt⟩ := r2.slot j t sp
      rw [List.getElem?_map, hv] at hw
      cases hw
      exact ⟨v, hσ, rt⟩
    · obtain ⟨v, hσ, rt⟩ := r.slot i t e1
      exact ⟨v, hσ, RepT.ext x rt fun ow p ev => stay i t p e1 q ow (by rw [hσ, ev])⟩
  · have mixed : ∀ (j1 i2 : Nat) (t1 t2 : T), (spreadE ts.length io outs)[j1]? = some (some t1) → vs[j1]? = some (.ref p) → t1.own = true → env[i2]? = some (some t2) → (∀ j o, (j, o) ∈ io.zip outs → sl.getD j none ≠ some i2) → t2.own = true → σ[i2]? = some (some (.ref p)) → False := by
      intro j1 i2 t1 t2 a b c d q f g
      have o1 : Own (spreadE ts.length io outs) (vs.map some) p := ⟨j1, t1, a, c, by rw [List.getElem?_map, b]; rfl⟩
      rcases x.own p o1 with z | z
      · exact stay i2 t2 p d q f g z
      · obtain ⟨v, hv, rt⟩ := r.slot i2 t2 d
        rw [g] at hv; cases hv
        cases t2 with
        | d _ => cases f
        | l ds =>
          obtain ⟨p2, vs2, e3, h4, _⟩ := rt
          cases e3
          rw [z] at h4; cases h4
        | m _ => exact rt.elim
        | o _ _ => exact rt.elim
    rcases cls i t e1 with ⟨j1, v1, hs1, sp1, hv1, hσ1⟩ | ⟨f1, q1⟩
    · rw [hσ1] at s1; cases s1
      rcases cls j u e2 with ⟨j2, v2, hs2, sp2, hv2, hσ2⟩ | ⟨f2, q2⟩
      · rw [hσ2] at s2; cases s2
        have : j1 = j2 := r2.sep j1 j2 t u p sp1 sp2 o1 o2 (by rw [List.getElem?_map, hv1]; rfl) (by rw [List.getElem?_map, hv2]; rfl)
        subst this
        rw [hs1] at hs2
        cases hs2
        rfl
      · exact (mixed j1 j t u sp1 hv1 o1 f2 q2 o2 s2).elim
    · rcases cls j u e2 with ⟨j2, v2, hs2, sp2, hv2, hσ2⟩ | ⟨f2, q2⟩
      · rw [hσ2] at s2; cases s2
        exact (mixed j2 i u t sp2 hv2 o2 f1 q1 o1 s1).elim
      · exact r.sep i j t u p f1 f2 o1 o2 s1 s2
/-- .. and its result -/
theorem call_post {t : T} {v : V} (r : Rel K cs F H env σ) (A : Args env σ sl ts vs) (ok : ioOk io sl = true) (lo : outs.length = io.length) (p : Post K cs F H (ts.map some) (vs.map some) F' H' (spreadE ts.length io outs) t v) :
    Post K cs F H env σ F' H' (putOuts io outs sl env) t v := by
  obtain ⟨x, r2, third⟩ := call_state r A ok lo p.ext p.rel
  refine ⟨x, r2, p.rep, fun o q e => ?_⟩
  obtain ⟨n1, n2⟩ := p.fresh o q e
  have n3 : Own env σ q ∨ H q = none := by
    rcases n2 with z | z
    · obtain ⟨_, _, _, _, o, _⟩ := A.own z
      exact .inl o
    · exact .inr z
  refine ⟨fun z => ?_, n3⟩
  rcases third q z with z | z
  · exact n1 z
  · rcases n2 with z2 | z2
    · exact z.2 z2
    · obtain ⟨i, u, e1, ow, es⟩ := z.1
      obtain ⟨w, hw, rt⟩ := r.slot i u e1
      rw [es] at hw; cases hw
      cases u with
      | d _ => cases ow
      | l ds =>
        obtain ⟨p2, vs2, e3, h4, _⟩ := rt
        cases e3
        rw [z2] at h4; cases h4
      | m _ => exact rt.elim
      | o _ _ => exact rt.elim

/-- the arguments stand -/
inductive ArgRep (K : PySem.W.Frag) (cs : Cst) (F H : Hp) : List T → List V → Prop where
  | nil : ArgRep K cs F H [] []
  | cons {t : T} {v : V} {ts : List T} {vs : List V} : RepT K cs F H t v → ArgRep K cs F H ts vs → ArgRep K cs F H (t :: ts) (v :: vs)
theorem ArgRep.length : ∀ {ts : List T} {vs : List V}, ArgRep K cs F H ts vs → ts.length = vs.length
  | _, _, .nil => rfl
  | _, _, .cons _ r => by rw [List.length_cons, List.length_cons, r.length]
theorem ArgRep.get : ∀ {ts : List T} {vs : List V} {i : Nat} {t : T}, ArgRep K cs F H ts vs → ts[i]? = some t → ∃ v, vs[i]? = some v ∧ RepT K cs F H t v
  | _, _, 0, _, .cons h _, e => ⟨_, rfl, by cases e; exact h⟩
  | _, _, i + 1, t, .cons _ r, e => by
    obtain ⟨v, h1, h2⟩ := ArgRep.get (i := i) (t := t) r (by simpa using e)
    exact ⟨v, by simpa using h1, h2⟩
  | _, _, _, _, .nil, e => by simp at e
/-- the callee's state -/
theorem rel_args (r : Rel K cs F H env σ) (A : Args env σ sl ts vs) (ar : ArgRep K cs F H ts vs) (ok : ioOk io sl = true) : Rel K cs F H (ts.map some) (vs.map some) := by
  obtain ⟨h1, h2, h3⟩ := ioOk_of ok
  have nth : ∀ (j : Nat) (t : T), (ts.map some)[j]? = some (some t) → ts[j]? = some t := fun j t e => by
    rw [List.getElem?_map] at e
    cases q : ts[j]? with
    | none => rw [q] at e; cases e
    | some u => rw [q] at e; cases e; rfl
  have nthv : ∀ (j : Nat) (t : V), (vs.map some)[j]? = some (some t) → vs[j]? = some t := fun j t e => by
    rw [List.getElem?_map] at e
    cases q : vs[j]? with
    | none => rw [q] at e; cases e
    | some u => rw [q] at e; cases e; rfl
  refine ⟨by rw [List.length_map, List.length_map, ar.length], r.fin, fun i t e => ?_, fun i j t u p e1 e2 o1 o2 s1 s2 => ?_⟩
  · obtain ⟨v, a, b⟩ := ar.get (nth i t e)
    exact ⟨v, by rw [List.getElem?_map, a]; rfl, b⟩
  · have f1 := nth i t e1
    have f2 := nth j u e2
    have g1 := nthv i _ s1
    have g2 := nthv j _ s2
    cases q1 : sl.getD i none with
    | none => rw [A.val i t f1 q1] at o1; cases o1
    | some a =>
      cases q2 : sl.getD j none with
      | none => rw [A.val j u f2 q2] at o2; cases o2
      | some b =>
        obtain ⟨t1, v1, a1, b1, c1, d1⟩ := A.at_ i a q1
        obtain ⟨t2, v2, a2, b2, c2, d2⟩ := A.at_ j b q2
        rw [f1] at a1; cases a1
        rw [f2] at a2; cases a2
        rw [g1] at b1; cases b1
        rw [g2] at b2; cases b2
        have ab : a = b := r.sep a b t u p c1 c2 o1 o2 d1 d2
        subst ab
        obtain ⟨x, hx, ex⟩ := List.mem_iff_getElem.mp (h3 i a q1)
        obtain ⟨y, hy, ey⟩ := List.mem_iff_getElem.mp (h3 j a q2)
        have hxy : x = y := by
          refine (List.getElem_inj (h₀ := by rw [List.length_map]; exact hx) (h₁ := by rw [List.length_map]; exact hy) h2).mp ?_
          rw [List.getElem_map, List.getElem_map, ex, ey, q1, q2]
        subst hxy
        rw [← ex, ← ey]
variable {C : Cl} {W : WX}
/-- the arguments, from the left; those that are slots as they stand behind all of them -/
theorem args_run : ∀ (es : Es) {F H : Hp} {env : AM.Env} {Kk : List T → AM.Env → Prop}, Rel K cs F H env σ → Fit (evA C es env) (WxOf W K cs F H env σ) Kk →
    tOs W K cs C es σ H fun xs H2 => ∃ F2 ts env2, Ext F H (Own env σ) F2 H2 (Own env2 σ) ∧ Rel K cs F2 H2 env2 σ ∧ Args env2 σ es.slots ts xs ∧ ArgRep K cs F2 H2 ts xs ∧ Kk ts env2
  | .nil, F, H, env, Kk, r, f => ⟨F, [], env, Ext.refl _ _ _, r, ⟨rfl, rfl, fun j i e => by simp [Es.slots] at e, fun j t e => by simp at e⟩, .nil, f⟩
  | .cons e es, F, H, env, Kk, r, f => by
    unfold evA at f
    cases hs : slotOf e with
    | some i =>
      rw [hs] at f
      simp only at f
      show tO W K cs C e σ H _
      unfold tO
      rw [hs]
      split at f
      · rename_i t0 h0
        obtain ⟨v, hv, _⟩ := r.get h0
        refine ⟨v, hv, tOs.mono (args_run es r f.bind) fun xs H2 ⟨F2, ts, env2, x, r2, A, rs, k⟩ => ?_⟩
        split at k
        · rename_i t ht
          obtain ⟨w, hw, rt⟩ := r2.get ht
          rw [hv] at hw; cases hw
          refine ⟨F2, _, env2, x, r2, ⟨by rw [List.length_cons, List.length_cons, A.len], ?_, fun j i' e' => ?_, fun j u e1 e2 => ?_⟩, .cons rt rs, k⟩
          · show (slotOf e :: es.slots).length = _
            rw [List.length_cons, List.length_cons, A.len2]
          · cases j with
            | zero =>
              have : slotOf e = some i' := by simpa [Es.slots] using e'
              rw [hs] at this; cases this
              exact ⟨t, v, rfl, rfl, getD_some ht, hv⟩
            | succ j =>
              obtain ⟨t', v', a, b, c, d⟩ := A.at_ j i' (by simpa [Es.slots] using e')
              exact ⟨t', v', by simpa using a, by simpa using b, c, d⟩
          · cases j with
            | zero =>
              have : slotOf e = none := by simpa [Es.slots] using e2
              rw [hs] at this; cases this
            | succ j => exact A.val j u (by simpa using e1) (by simpa [Es.slots] using e2)
        · exact k.elim
      · exact f.elim
    | none =>
      rw [hs] at f
      simp only at f
      show tO W K cs C e σ H _
      unfold tO
      rw [hs]
      refine ⟨F, env, r, f.bind.mono (fun _ _ z => z) fun t env1 g v F1 H1 p => ?_⟩
      obtain ⟨F2, p2, s⟩ := p.kept
      refine tOs.mono (args_run es p2.rel (g.bind.mono (fun _ _ z => WxOf.move p2.ext z) fun _ _ z => z)) fun xs H2 ⟨F3, ts, env2, x, r2, A, rs, k⟩ => ?_
      refine ⟨F3, _, env2, p2.ext.trans x, r2, ⟨by rw [List.length_cons, List.length_cons, A.len], ?_, fun j i' e' => ?_, fun j u e1 e2 => ?_⟩, .cons (show RepT K cs F3 _ (.d t.snap) _ from RepD.mono x.fr p2.rep) rs, k⟩
      · show (slotOf e :: es.slots).length = _
        rw [List.length_cons, List.length_cons, A.len2]
      · cases j with
        | zero =>
          have : slotOf e = some i' := by simpa [Es.slots] using e'
          rw [hs] at this; cases this
        | succ j =>
          obtain ⟨t', v', a, b, c, d⟩ := A.at_ j i' (by simpa [Es.slots] using e')
          exact ⟨t', v', by simpa using a, by simpa using b, c, d⟩
      · cases j with
        | zero =>
          have e1 : T.d t.snap = u := by simpa using e1
          subst e1
          rfl
        | succ j => exact A.val j u (by simpa using e1) (by simpa [Es.slots] using e2)
end
end AM

set_option maxHeartbeats 4000000
/-! expressions: the machine does as the evaluator answers -/
namespace AM
open PySem PySem.Spec PyProof.Rows L2

/-! ### rules that hold whatever the rule is -/
section
variable {X : Cx}
theorem PE.imp {e : Expr} {t t' : TE} (h : PE X e t) (q : ∀ σ H Q, t' σ H Q → t σ H Q) : PE X e t' := ⟨fun pins s σ H Q I w => h.run pins s σ H Q I (q σ H Q w)⟩
theorem PT.imp {e : Expr} {t t' : TT} (h : PT X e t) (q : ∀ σ H Q, t' σ H Q → t σ H Q) : PT X e t' := ⟨fun pins s σ H Q I w => h.run pins s σ H Q I (q σ H Q w)⟩
theorem PW.imp {e : Expr} {t t' : TT} (h : PW X e t) (q : ∀ σ H Q, t' σ H Q → t σ H Q) : PW X e t' := ⟨fun wh pins s σ H Q I w => h.run wh pins s σ H Q I (q σ H Q w)⟩
def uOp (X : Cx) (f : Value → Value → Sem Value) : R2 := fun x y H Q => ∃ r : R2, OpR X f r ∧ r x y H Q
theorem uOp_ok {f : Value → Value → Sem Value} : OpR X f (uOp X f) := by
  intro pins s σ H x y v u Q I rx ry w
  obtain ⟨r, h, q⟩ := w
  exact h pins s σ H x y v u Q I rx ry q
def uUn (X : Cx) (f : Value → Sem Value) : V → Hp → VK → Prop := fun x H Q => ∃ r : V → Hp → VK → Prop, UnR X f r ∧ r x H Q
theorem uUn_ok {f : Value → Sem Value} : UnR X f (uUn X f) := by
  intro pins s σ H x v Q I rx w
  obtain ⟨r, h, q⟩ := w
  exact h pins s σ H x v Q I rx q
def uIx (X : Cx) : R2 := fun x y H Q => ∃ r : R2, IxR X r ∧ r x y H Q
theorem uIx_ok : IxR X (uIx X) := by
  intro a b pins s σ H x y v u Q I rx ry w hs
  obtain ⟨r, h, q⟩ := w
  exact h a b pins s σ H x y v u Q I rx ry q hs
def uSl (X : Cx) : V → Option Int → Option Int → Hp → VK → Prop := fun x lo hi H Q => ∃ r : V → Option Int → Option Int → Hp → VK → Prop, SlR X r ∧ r x lo hi H Q
theorem uSl_ok : SlR X (uSl X) := by
  intro pins s σ H x v vl vu lo hi sl Q I rx hs pl pu w
  obtain ⟨r, h, q⟩ := w
  exact h pins s σ H x v vl vu lo hi sl Q I rx hs pl pu q
def uCall (X : Cx) (f : Value) : List V → Hp → VK → Prop := fun xs H Q => ∃ r : List V → Hp → VK → Prop, CallR X f r ∧ r xs H Q
theorem uCall_ok {f : Value} : CallR X f (uCall X f) := by
  intro pins s σ H xs us Q I rx w
  obtain ⟨r, h, q⟩ := w
  exact h pins s σ H xs us Q I rx q
end

/-- the surroundings of a body: the text's facts -/
structure Good (P : Tx) (G : Ck) (k : Nat) (cs : Cst) (W : WX) (N : List Str) (sc : Scope) (X : Cx) : Prop where
  hN : X.N = N
  hsc : X.env.scope = sc
  nd : N.Nodup
  calm : X.calm = true
  room : Room k X.A
  takes : Takes X W
  pass : PassesOwn (model X.prog X.w) X.A X.env X.xe
  fns : ∀ (f : Nat) (x : Str), G.nm[f]? = some x → ∃ (a : Addr) (fd : FuncData) (ps : List Str), X.mg x = some (.ref a) ∧ PySem.W.keepIn X.K (.ref a) = true ∧ Binds X.K fd ps [] ∧
    FnOk X.prog X.w X.K X.mg X.base (L2.CX X.prog X.w) k a fd ps (spF P k f X.K cs ps.length) ∧ ∀ fn, P.fns[f]? = some fn → fn.np = ps.length
  free : ∀ x ∈ G.fr, X.mg x = none
  glob : ∀ (x : Str) (d : D), P.glob x = some d → x ∈ G.gl → ∃ (u : Value) (v : V), (X.mg x = some u ∨ (X.mg x = none ∧ bootBuiltins x = some u)) ∧ RelV v u ∧ ∀ F, RepD X.K cs F d v

section
variable {P : Tx} {G : Ck} {k : Nat} {cs : Cst} {W : WX} {N : List Str} {sc : Scope} {X : Cx}
abbrev clOf (P : Tx) (k : Nat) : Cl := ⟨P.call k, P.io, P.glob⟩

theorem nameB_of {i : Nat} {x : Str} (h : nameB N sc i x = true) : N[i]? = some x ∧ Vis sc x ∧ (x == ("__debug__" : Str)) = false ∧ (x == ("__classdict__" : Str)) = false := by
  unfold nameB at h
  simp only [Bool.and_eq_true, decide_eq_true_eq, Bool.not_eq_true'] at h
  obtain ⟨⟨⟨h1, h2⟩, h3⟩, h4⟩ := h
  refine ⟨h1, ?_, h3, h4⟩
  unfold visB at h2
  split at h2
  · rename_i e; exact .inl e
  · rename_i e; exact .inr (.inl e)
  · rename_i e; exact .inr (.inr e)
  · cases h2
theorem glB_of {x : Str} (h : glB sc x = true) : sc.names.lookup x = some .globalImplicit ∧ (x == ("__debug__" : Str)) = false ∧ x ≠ "__name__" := by
  unfold glB at h
  simp only [Bool.and_eq_true, Bool.not_eq_true'] at h
  obtain ⟨⟨h1, h2⟩, h3⟩ := h
  refine ⟨?_, h2, fun e => ?_⟩
  · split at h1
    · assumption
    · cases h1
  · subst e
    simp at h3
theorem Good.gl (g : Good P G k cs W N sc X) {x : Str} (h : sc.names.lookup x = some .globalImplicit) : Gl X x := by
  show X.env.scope.names.lookup x = _
  rw [g.hsc]
  exact h
theorem pe_name (g : Good P G k cs W N sc X) {i : Nat} {x : Str} {pos : Pos} (h : nameB N sc i x = true) : PE X (.Name x pos) (tVar i) := by
  obtain ⟨h1, h2, h3, h4⟩ := nameB_of h
  exact pe_var (by rw [g.hN]; exact h1) (by rw [g.hsc]; exact h2) h3 h4
/-- the arguments, one by one -/
inductive EsOk (X : Cx) (W : WX) (cs : Cst) (C : Cl) : Es → List Expr → Prop where
  | nil : EsOk X W cs C .nil []
  | cons {e : E} {es : Es} {x : Expr} {xs : List Expr} : PE X x (tO W X.K cs C e) → (∀ (ys : List Expr) (env : PySem.Env), starEach (x :: ys) env = (false, eval x env) :: starEach ys env) → EsOk X W cs C es xs → EsOk X W cs C (.cons e es) (x :: xs)
theorem EsOk.pa {C : Cl} : ∀ {es : Es} {xs : List Expr}, EsOk X W cs C es xs → PA X xs (tOs W X.K cs C es)
  | _, _, .nil => pa_nil
  | _, _, .cons h s r => pa_cons h r.pa (s _ _)
theorem EsOk.plain {C : Cl} {pos : Pos} : ∀ {es : Es} {xs : List Expr}, EsOk X W cs C es xs → (backTo pos (starEach xs X.env)).any (·.1) = false
  | _, _, .nil => rfl
  | _, _, .cons h s r => by
    rw [s]
    show (false || (backTo pos (starEach _ X.env)).any (·.1)) = false
    rw [r.plain]
    rfl
theorem notStar {e : E} {x : Expr} (h : chkE G N sc false e x = true) (ys : List Expr) (env : PySem.Env) : starEach (x :: ys) env = (false, eval x env) :: starEach ys env := by
  cases x <;> first | rfl | (exfalso; cases e <;> simp [chkE] at h)
theorem nomarkS {o : CmpOp} {y : Expr} (h : isSet y = false) : behindInMarks o y = false := by
  cases y <;> first | rfl | (cases h; done)

/-! ### what the constants say -/
theorem cst_pe {d : D} {c : Const} {j : Nat} {pos : Pos} {C : Cl} (h : cstB d c = true) : PE X (.Constant c j pos) (tE W X.K cs C (.cst d)) := by
  have go : ∀ (v : V), PE X (.Constant c j pos) (tC v) → (∀ F, RepD X.K cs F d v) → PE X (.Constant c j pos) (tE W X.K cs C (.cst d)) := fun v p r => PE.imp p fun σ H Q ⟨F, env, rel, f⟩ => by
    unfold evE at f
    exact f v F H (Post.stay rel (r F))
  unfold cstB at h
  split at h
  · exact go _ pe_non fun _ => .non
  · have e := beq_iff_eq.mp h
    subst e
    exact go _ pe_bl fun _ => .bl _
  · have e := beq_iff_eq.mp h
    subst e
    exact go _ pe_int fun _ => .int _
  · have e := of_decide_eq_true h
    subst e
    exact go _ pe_str fun _ => .str _
  · cases h
theorem var_pe (g : Good P G k cs W N sc X) {i : Nat} {x : Str} {pos : Pos} {C : Cl} (h : nameB N sc i x = true) : PE X (.Name x pos) (tE W X.K cs C (.var i)) := PE.imp (pe_name g h) fun σ H Q ⟨F, env, rel, f⟩ => by
  unfold evE at f
  split at f
  · rename_i d e
    obtain ⟨v, hv, r⟩ := rel.get e
    exact ⟨v, hv, f v F H (Post.stay rel r)⟩
  · exact f.elim
theorem glob_pe (g : Good P G k cs W N sc X) {x : Str} {pos : Pos} (h : glB sc x = true) (hm : x ∈ G.gl) : PE X (.Name x pos) (tE W X.K cs (clOf P k) (.glob x)) := by
  obtain ⟨h1, h2, h3⟩ := glB_of h
  cases e : P.glob x with
  | none =>
    refine PE.imp (t := fun _ _ _ => False) ⟨fun _ _ _ _ _ _ z => z.elim⟩ fun σ H Q ⟨F, env, rel, f⟩ => ?_
    unfold evE at f
    rw [show (clOf P k).glob x = none from e] at f
    exact f
  | some d =>
    obtain ⟨u, v, hu, rv, rd⟩ := g.glob x d e hm
    have p : PE X (.Name x pos) (tC v) := by
      rcases hu with hu | ⟨hu, hb⟩
      · exact pe_glob (g.gl h1) hu rv h2
      · exact pe_bltn (g.gl h1) hu hb rv h3 h2
    refine PE.imp p fun σ H Q ⟨F, env, rel, f⟩ => ?_
    unfold evE at f
    rw [show (clOf P k).glob x = some d from e] at f
    exact f v F H (Post.stay rel (rd F))
end
end AM

set_option maxHeartbeats 4000000
namespace AM
open PySem PySem.Spec PyProof.Rows L2
section
variable {P : Tx} {G : Ck} {k : Nat} {cs : Cst} {W : WX} {N : List Str} {sc : Scope} {X : Cx} {C : Cl}

theorem prim_run {p : Prim} {es : Es} {F H : Hp} {env : AM.Env} {σ : L2.St} {Q : VK} {K : PySem.W.Frag} (r : Rel K cs F H env σ) (f : Fit (evE C (.prim p es) env) (WxOf W K cs F H env σ) (KeOf K cs F H env σ Q)) :
    tOs W K cs C es σ H fun xs H2 => ∃ F2 ds env2 t, Rel K cs F2 H2 env2 σ ∧ RepVs K cs F2 H2 ds xs ∧ primF p ds = some t ∧ Gives K cs F2 H2 env2 σ t Q := by
  unfold evE at f
  refine tOs.mono (ops_run es r f.bind) fun xs H2 ⟨F2, ds, env2, x, r2, rs, q⟩ => ?_
  cases e : primF p ds with
  | none => rw [e] at q; exact q.elim
  | some t =>
    rw [e] at q
    exact ⟨F2, ds, env2, t, r2, rs, e, KeOf.move x q⟩
theorem RepVs.two' {K : PySem.W.Frag} {F H : Hp} {ds : List D} {x y : V} (r : RepVs K cs F H ds [x, y]) : ∃ d e, ds = [d, e] ∧ RepV K cs F H d x ∧ RepV K cs F H e y := by
  cases r with
  | cons h r =>
    cases r with
    | cons g r => cases r; exact ⟨_, _, rfl, h, g⟩
theorem RepVs.one' {K : PySem.W.Frag} {F H : Hp} {ds : List D} {x : V} (r : RepVs K cs F H ds [x]) : ∃ d, ds = [d] ∧ RepV K cs F H d x := by
  cases r with
  | cons h r => cases r; exact ⟨_, rfl, h⟩
theorem bin_pe (g : Good P G k cs W N sc X) {o : Operator} {es : Es} {x y : Expr} {pos : Pos} (h : EsOk X W cs C es [x, y]) : PE X (.BinOp x o y pos) (tE W X.K cs C (.prim (.bin o) es)) := by
  cases h with
  | cons ha sa h =>
    cases h with
    | cons hb sb h =>
      cases h
      refine PE.imp (pe_op (uOp_ok (X := X) (f := binaryOp o)) ha hb) fun σ H Q ⟨F, env, r, f⟩ => ?_
      refine tO.mono (prim_run r f) fun v1 H1 z => tO.mono z fun v2 H2 ⟨F2, ds, env2, t, r2, rs, e, q⟩ => ?_
      obtain ⟨d, e', rfl, r1, r3⟩ := rs.two'
      exact bin_ok e r2 r1 r3 q
theorem neg_pe (g : Good P G k cs W N sc X) {es : Es} {x : Expr} {pos : Pos} (h : EsOk X W cs C es [x]) : PE X (.UnaryOp .USub x pos) (tE W X.K cs C (.prim .neg es)) := by
  cases h with
  | cons ha sa h =>
    cases h
    refine PE.imp (pe_un (uUn_ok (X := X) (f := unaryOp .USub)) ha) fun σ H Q ⟨F, env, r, f⟩ => ?_
    refine tO.mono (prim_run r f) fun v1 H1 ⟨F2, ds, env2, t, r2, rs, e, q⟩ => ?_
    obtain ⟨d, rfl, r1⟩ := rs.one'
    cases d with
    | int i => cases e; exact un_ok r2 r1 q
    | _ => cases e
theorem cmp_pe (g : Good P G k cs W N sc X) {o : CmpOp} {es : Es} {x y : Expr} {pos : Pos} (hs : isSet y = false) (h : EsOk X W cs C es [x, y]) : PE X (.Compare x [o] [y] pos) (tE W X.K cs C (.prim (.cmp o) es)) := by
  cases h with
  | cons ha sa h =>
    cases h with
    | cons hb sb h =>
      cases h
      refine PE.imp (pe_cmpR (uOp_ok (X := X) (f := compareOp o)) ha hb (nomarkS hs)) fun σ H Q ⟨F, env, r, f⟩ => ?_
      refine tO.mono (prim_run r f) fun v1 H1 z => tO.mono z fun v2 H2 ⟨F2, ds, env2, t, r2, rs, e, q⟩ => ?_
      obtain ⟨d, e', rfl, r1, r3⟩ := rs.two'
      obtain ⟨b, hb, e⟩ := Option.map_eq_some_iff.mp e
      subst e
      exact cmp_ok g.room hb r2 r1 r3 (q.stay r2 (.bl b))
theorem cmp_pt (g : Good P G k cs W N sc X) {o : CmpOp} {es : Es} {x y : Expr} {pos : Pos} (hs : isSet y = false) (h : EsOk X W cs C es [x, y]) : PT X (.Compare x [o] [y] pos) (tT W X.K cs C (.prim (.cmp o) es)) := by
  cases h with
  | cons ha sa h =>
    cases h with
    | cons hb sb h =>
      cases h
      refine PT.imp (pt_cmpR (uOp_ok (X := X) (f := compareOp o)) ha hb (nomarkS hs)) fun σ H Q ⟨F, env, r, f⟩ => ?_
      have f' : Fit (evE C (.prim (.cmp o) _) env) (WxOf W X.K cs F H env σ) (KeOf X.K cs F H env σ fun v H' => ∃ b, v = .bl b ∧ Q b H') := f.bind.mono (fun _ _ z => z) fun t env' z v F' H' p => by
        cases t with
        | d d =>
          cases d with
          | bl b =>
            cases (show RepD X.K cs F' (.bl b) v from p.rep)
            exact ⟨b, rfl, z F' H' p.ext p.rel⟩
          | _ => exact z.elim
        | _ => exact z.elim
      refine tO.mono (prim_run r f') fun v1 H1 z => tO.mono z fun v2 H2 ⟨F2, ds, env2, t, r2, rs, e, q⟩ => ?_
      obtain ⟨d, e', rfl, r1, r3⟩ := rs.two'
      obtain ⟨b, hb, e⟩ := Option.map_eq_some_iff.mp e
      subst e
      exact cmp_ok g.room hb r2 r1 r3 (q.stay r2 (.bl b))
theorem ix_pe (g : Good P G k cs W N sc X) {es : Es} {x y : Expr} {pos : Pos} (hs : isSlice y = false) (h : EsOk X W cs C es [x, y]) : PE X (.Subscript x y pos) (tE W X.K cs C (.prim .ix es)) := by
  cases h with
  | cons ha sa h =>
    cases h with
    | cons hb sb h =>
      cases h
      have pl : PlainIx y := fun o i => by cases y <;> first | rfl | (cases hs; done)
      refine PE.imp (pe_ix (uIx_ok (X := X)) ha hb pl) fun σ H Q ⟨F, env, r, f⟩ => ?_
      refine tO.mono (prim_run r f) fun v1 H1 z => tO.mono z fun v2 H2 ⟨F2, ds, env2, t, r2, rs, e, q⟩ => ?_
      obtain ⟨d, e', rfl, r1, r3⟩ := rs.two'
      obtain ⟨b, hb, e⟩ := Option.map_eq_some_iff.mp e
      subst e
      exact ix_ok hb r2 r1 r3 q
theorem RepVs.all {K : PySem.W.Frag} {F H : Hp} : ∀ {ds : List D} {xs : List V}, RepVs K cs F H ds xs → ds.length = xs.length
  | _, _, .nil => rfl
  | _, _, .cons _ r => by rw [List.length_cons, List.length_cons, r.all]
/-- every operand kept: nothing among them is only looked at -/
theorem ops_kept {K : PySem.W.Frag} : ∀ (es : Es) {F H : Hp} {env : AM.Env} {σ : L2.St} {Kk : List D → AM.Env → Prop}, es.slots.all Option.isNone = true → Rel K cs F H env σ → Fit (evEs C es env) (WxOf W K cs F H env σ) Kk →
    tOs W K cs C es σ H fun xs H2 => ∃ F2 ds env2, Ext F H (Own env σ) F2 H2 (Own env2 σ) ∧ Rel K cs F2 H2 env2 σ ∧ RepDs K cs F2 ds xs ∧ Kk ds env2
  | .nil, F, H, env, σ, Kk, _, r, f => ⟨F, [], env, Ext.refl _ _ _, r, .nil, f⟩
  | .cons e es, F, H, env, σ, Kk, hn, r, f => by
    unfold evEs at f
    have hn : (slotOf e).isNone = true ∧ es.slots.all Option.isNone = true := by
      have := hn
      rw [Es.slots, List.all_cons, Bool.and_eq_true] at this
      exact this
    have hs : slotOf e = none := by
      cases q : slotOf e with
      | none => rfl
      | some i => rw [q] at hn; cases hn.1
    rw [hs] at f
    simp only at f
    show tO W K cs C e σ H _
    unfold tO
    rw [hs]
    refine ⟨F, env, r, f.bind.mono (fun _ _ z => z) fun t env1 g v F1 H1 p => ?_⟩
    obtain ⟨F2, p2, s⟩ := p.kept
    refine tOs.mono (ops_kept es hn.2 p2.rel (g.bind.mono (fun _ _ z => WxOf.move p2.ext z) fun _ _ z => z)) fun xs H2 ⟨F3, ds, env2, x, r2, rs, k⟩ => ?_
    exact ⟨F3, _, env2, p2.ext.trans x, r2, .cons (RepD.mono x.fr p2.rep) rs, k⟩
theorem tup_pe {es : Es} {xs : List Expr} {j : Nat} {pos : Pos} (hn : es.slots.all Option.isNone = true) (h : EsOk X W cs C es xs) : PE X (.Tuple xs j pos) (tE W X.K cs C (.prim .tup es)) := by
  refine PE.imp (pe_tup h.pa) fun σ H Q ⟨F, env, r, f⟩ => ?_
  unfold evE at f
  refine tOs.mono (ops_kept es hn r f.bind) fun vs H2 ⟨F2, ds, env2, x, r2, rs, q⟩ => ?_
  have e : primF .tup ds = if ds.length ≤ sizeLine then some (.d (.tup ds)) else none := rfl
  rw [e] at q
  by_cases hz : ds.length ≤ sizeLine
  · rw [if_pos hz] at q
    exact ⟨by rw [← rs.length]; exact hz, Gives.tup r2 (KeOf.move x q) rs⟩
  · rw [if_neg hz] at q
    exact q.elim
theorem lst_pe {es : Es} {xs : List Expr} {pos : Pos} (hn : es.slots.all Option.isNone = true) (h : EsOk X W cs C es xs) : PE X (.List xs pos) (tE W X.K cs C (.prim .lst es)) := by
  refine PE.imp (pe_lst h.pa) fun σ H Q ⟨F, env, r, f⟩ => ?_
  unfold evE at f
  refine tOs.mono (ops_kept es hn r f.bind) fun vs H2 ⟨F2, ds, env2, x, r2, rs, q⟩ => ?_
  have e : primF .lst ds = if ds.length ≤ sizeLine then some (.l ds) else none := rfl
  rw [e] at q
  by_cases hz : ds.length ≤ sizeLine
  · rw [if_pos hz] at q
    exact ⟨by rw [← rs.length]; exact hz, Gives.lst r2 (KeOf.move x q) rs⟩
  · rw [if_neg hz] at q
    exact q.elim
theorem dic_pe {pos : Pos} : PE X (.Dict [] [] pos) (tE W X.K cs C (.prim .dic .nil)) := by
  refine PE.imp pe_dnewK fun σ H Q ⟨F, env, r, f⟩ => ?_
  unfold evE evEs at f
  intro p hp
  exact f (.ref p) _ _ (Post.newK r hp (.dic0 upd_same))
theorem bi_pe (g : Good P G k cs W N sc X) {n : Bi} {es : Es} {x : Str} {a : Expr} {as : List Expr} {p pos : Pos} (hx : x = Str.ofString n.name) (hg : glB sc x = true) (hf : x ∈ G.fr) (h : EsOk X W cs C es (a :: as)) :
    PE X (.Call (.Name x p) (a :: as) [] pos) (tE W X.K cs C (.prim (.bi n) es)) := by
  obtain ⟨h1, h2, h3⟩ := glB_of hg
  have main : PE X (.Call (.Name x p) (a :: as) [] pos) (tCB (uCall X n.val) (tOs W X.K cs C es)) := by
    have hm := g.free x hf
    have he : starEach (a :: as) X.env = (false, eval a X.env) :: starEach as X.env := by cases h with | cons _ s _ => exact s _ _
    have hp : (backTo pos (starEach as X.env)).any (·.1) = false := by cases h with | cons _ _ r => exact r.plain
    subst hx
    cases n <;> first
      | exact pe_callB (uCall_ok (X := X)) (g.gl h1) hm (by decide +kernel) h.pa h3 h2 he hp
      | exact pe_callTy (uCall_ok (X := X)) (g.gl h1) hm (by decide +kernel) h.pa h3 h2 he hp
  refine PE.imp main fun σ H Q ⟨F, env, r, f⟩ => ?_
  refine tOs.mono (prim_run r f) fun vs H2 ⟨F2, ds, env2, t, r2, rs, e, q⟩ => ?_
  exact bi_ok g.calm e r2 rs q
end
end AM

set_option maxHeartbeats 4000000
namespace AM
open PySem PySem.Spec PyProof.Rows L2
section
variable {P : Tx} {G : Ck} {k : Nat} {cs : Cst} {W : WX} {N : List Str} {sc : Scope} {X : Cx} {C : Cl}

/-- a step of a reading: behind an expression -/
theorem step {α : Type} {K : PySem.W.Frag} {c : E} {F H : Hp} {env : AM.Env} {σ : L2.St} {g : T → AM.Env → R α} {Kk : α → AM.Env → Prop} {Q : VK} (r : Rel K cs F H env σ) (f : Fit ((evE C c env).bind g) (WxOf W K cs F H env σ) Kk)
    (h : ∀ t env' v F' H', Post K cs F H env σ F' H' env' t v → Fit (g t env') (WxOf W K cs F' H' env' σ) Kk → Q v H') : tE W K cs C c σ H Q :=
  ⟨F, env, r, f.bind.mono (fun _ _ z => z) fun t env' z v F' H' p => h t env' v F' H' p (z.mono (fun _ _ q => WxOf.move p.ext q) fun _ _ q => q)⟩
/-- .. behind a bool -/
theorem stepB {α : Type} {K : PySem.W.Frag} {c : E} {F H : Hp} {env : AM.Env} {σ : L2.St} {g : Bool → AM.Env → R α} {Kk : α → AM.Env → Prop} {Q : VK} (r : Rel K cs F H env σ) (f : Fit (((evE C c env).bl).bind g) (WxOf W K cs F H env σ) Kk)
    (h : ∀ b env' F' H', Ext F H (Own env σ) F' H' (Own env' σ) → Rel K cs F' H' env' σ → Fit (g b env') (WxOf W K cs F' H' env' σ) Kk → Q (.bl b) H') : tE W K cs C c σ H Q := by
  refine ⟨F, env, r, f.bind.bind.mono (fun _ _ z => z) fun t env' z v F' H' p => ?_⟩
  cases t with
  | d d =>
    cases d with
    | bl b =>
      cases (show RepD K cs F' (.bl b) v from p.rep)
      exact h b env' F' H' p.ext p.rel (Fit.mono z (fun _ _ q => WxOf.move p.ext q) fun _ _ q => q)
    | _ => exact z.elim
  | _ => exact z.elim
/-- .. behind a test -/
theorem stepT {α : Type} {K : PySem.W.Frag} {c : E} {F H : Hp} {env : AM.Env} {σ : L2.St} {g : Bool → AM.Env → R α} {Kk : α → AM.Env → Prop} {Q : Bool → Hp → Prop} (r : Rel K cs F H env σ) (f : Fit (((evE C c env).bl).bind g) (WxOf W K cs F H env σ) Kk)
    (h : ∀ b env' F' H', Ext F H (Own env σ) F' H' (Own env' σ) → Rel K cs F' H' env' σ → Fit (g b env') (WxOf W K cs F' H' env' σ) Kk → Q b H') : tT W K cs C c σ H Q :=
  ⟨F, env, r, f.bind.mono (fun _ _ z => z) fun b env' z F' H' x r' => h b env' F' H' x r' (z.mono (fun _ _ q => WxOf.move x q) fun _ _ q => q)⟩
/-- an expression whose answer is a bool, as a test -/
theorem test_of {c : E} {e : Expr} (h : PE X e (tE W X.K cs C c)) (hp : plainT e = true) : PT X e (tT W X.K cs C c) := by
  refine PT.imp (pt_val h fun whole => ?_) fun σ H Q ⟨F, env, r, f⟩ => ?_
  · cases e <;> first | rfl | (cases hp; done) | (rename_i o _ _; cases o <;> first | rfl | (cases hp; done))
  · refine ⟨F, env, r, f.bind.mono (fun _ _ z => z) fun t env' z v F' H' p => ?_⟩
    cases t with
    | d d =>
      cases d with
      | bl b =>
        cases (show RepD X.K cs F' (.bl b) v from p.rep)
        exact ⟨b, rfl, z F' H' p.ext p.rel⟩
      | _ => exact z.elim
    | _ => exact z.elim
theorem and_pe {a b : E} {x y : Expr} {r : List Expr} {pos : Pos} (ha : PE X x (tE W X.K cs C a)) (hb : PE X (.BoolOp .And (y :: r) pos) (tE W X.K cs C b)) : PE X (.BoolOp .And (x :: y :: r) pos) (tE W X.K cs C (.and a b)) := by
  refine PE.imp (pe_and ha hb) fun σ H Q ⟨F, env, rel, f⟩ => ?_
  unfold evE at f
  refine stepB rel f fun c env' F' H' x r' z => ⟨c, rfl, ?_⟩
  cases c with
  | true => exact ⟨F', env', r', z.mono (fun _ _ q => q) fun _ _ q => KeOf.move x q⟩
  | false => exact z _ F' H' ⟨x, r', .bl false, fun z => by cases z⟩
theorem or_pe {a b : E} {x y : Expr} {r : List Expr} {pos : Pos} (ha : PE X x (tE W X.K cs C a)) (hb : PE X (.BoolOp .Or (y :: r) pos) (tE W X.K cs C b)) : PE X (.BoolOp .Or (x :: y :: r) pos) (tE W X.K cs C (.or a b)) := by
  refine PE.imp (pe_or ha hb) fun σ H Q ⟨F, env, rel, f⟩ => ?_
  unfold evE at f
  refine stepB rel f fun c env' F' H' x r' z => ⟨c, rfl, ?_⟩
  cases c with
  | false => exact ⟨F', env', r', z.mono (fun _ _ q => q) fun _ _ q => KeOf.move x q⟩
  | true => exact z _ F' H' ⟨x, r', .bl true, fun z => by cases z⟩
theorem one_pe {a : E} {x : Expr} {o : BoolOp} {pos : Pos} (ha : PE X x (tE W X.K cs C a)) : PE X (.BoolOp o [x] pos) (tE W X.K cs C (.one a)) := by
  refine PE.imp (pe_one ha) fun σ H Q ⟨F, env, rel, f⟩ => ?_
  unfold evE at f
  exact ⟨F, env, rel, f⟩
theorem not_pe {a : E} {x : Expr} {pos : Pos} (ha : PE X x (tE W X.K cs C a)) : PE X (.UnaryOp .Not x pos) (tE W X.K cs C (.not a)) := by
  refine PE.imp (pe_not ha) fun σ H Q ⟨F, env, rel, f⟩ => ?_
  unfold evE at f
  refine stepB rel f fun c env' F' H' x r' z => ⟨c, rfl, ?_⟩
  exact z _ F' H' ⟨x, r', .bl _, fun z => by cases z⟩
theorem ife_pe {c a b : E} {c' a' b' : Expr} {pos : Pos} (hc : PT X c' (tT W X.K cs C c)) (ha : PE X a' (tE W X.K cs C a)) (hb : PE X b' (tE W X.K cs C b)) : PE X (.IfExp c' a' b' pos) (tE W X.K cs C (.ife c a b)) := by
  refine PE.imp (pe_ifExp hc ha hb) fun σ H Q ⟨F, env, rel, f⟩ => ?_
  unfold evE at f
  refine stepT rel f fun k env' F' H' x r' z => ?_
  cases k with
  | true => exact iteT ⟨F', env', r', z.mono (fun _ _ q => q) fun _ _ q => KeOf.move x q⟩
  | false => exact iteF ⟨F', env', r', z.mono (fun _ _ q => q) fun _ _ q => KeOf.move x q⟩
theorem Fit.unbind {α β : Type} {r : R α} {f : α → AM.Env → R β} {Wx : AM.X → AM.Env → Prop} {Kk : β → AM.Env → Prop} (h : Fit r Wx fun a env => Fit (f a env) Wx Kk) : Fit (r.bind f) Wx Kk := by
  cases r <;> exact h
def blF (t : T) (env : AM.Env) : R Bool := match t with
  | .d (.bl b) => .ok b env
  | _ => .no
theorem reBl {K : PySem.W.Frag} {F H F1 H1 : Hp} {env env1 : AM.Env} {σ : L2.St} {r : R T} {Q : Bool → Hp → Prop} (x : Ext F H (Own env σ) F1 H1 (Own env1 σ))
    (z : Fit r (WxOf W K cs F1 H1 env1 σ) fun t env2 => Fit (blF t env2) (WxOf W K cs F H env σ) (KbOf K cs F H env σ Q)) : Fit r.bl (WxOf W K cs F1 H1 env1 σ) (KbOf K cs F1 H1 env1 σ Q) :=
  Fit.unbind (z.mono (fun _ _ q => q) fun t env2 q => Fit.mono q (fun _ _ q => WxOf.move x q) fun _ _ q => KbOf.move x q)
/-- tests by tests -/
theorem and_pw {a b : E} {x y : Expr} {r : List Expr} {pos : Pos} (ha : PT X x (tT W X.K cs C a)) (hb : PW X (.BoolOp .And (y :: r) pos) (tT W X.K cs C b)) : PW X (.BoolOp .And (x :: y :: r) pos) (tT W X.K cs C (.and a b)) := by
  refine PW.imp (pw_and ha hb) fun σ H Q ⟨F, env, rel, f⟩ => ?_
  unfold evE at f
  refine stepT rel f.bind fun c env' F' H' x r' z => ?_
  cases c with
  | true => exact iteT ⟨F', env', r', reBl x z⟩
  | false => exact iteF (z F' H' x r')
theorem or_pw {a b : E} {x y : Expr} {r : List Expr} {pos : Pos} (ha : PT X x (tT W X.K cs C a)) (hb : PW X (.BoolOp .Or (y :: r) pos) (tT W X.K cs C b)) : PW X (.BoolOp .Or (x :: y :: r) pos) (tT W X.K cs C (.or a b)) := by
  refine PW.imp (pw_or ha hb) fun σ H Q ⟨F, env, rel, f⟩ => ?_
  unfold evE at f
  refine stepT rel f.bind fun c env' F' H' x r' z => ?_
  cases c with
  | false => exact iteF ⟨F', env', r', reBl x z⟩
  | true => exact iteT (z F' H' x r')
theorem one_pw {a : E} {x : Expr} {o : BoolOp} {pos : Pos} (ha : PT X x (tT W X.K cs C a)) : PW X (.BoolOp o [x] pos) (tT W X.K cs C (.one a)) := by
  have go : PW X (.BoolOp o [x] pos) (tT W X.K cs C a) := by
    cases o with
    | And => exact pw_and1 ha
    | Or => exact pw_or1 ha
  refine PW.imp go fun σ H Q ⟨F, env, rel, f⟩ => ?_
  unfold evE at f
  exact ⟨F, env, rel, f⟩
theorem not_pt {a : E} {x : Expr} {pos : Pos} (ha : PT X x (tT W X.K cs C a)) : PT X (.UnaryOp .Not x pos) (tT W X.K cs C (.not a)) := by
  refine PT.imp (pt_not ha) fun σ H Q ⟨F, env, rel, f⟩ => ?_
  unfold evE at f
  refine stepT rel f.bind fun c env' F' H' x r' z => ?_
  exact z F' H' x r'
/-- whatever is true of itself -/
theorem tru_pt (g : Good P G k cs W N sc X) {a : E} {x : Expr} (ha : PE X x (tO W X.K cs C a)) (hp : plainT x = true) : PT X x (tT W X.K cs C (.tru a)) := by
  refine PT.imp (pt_truth ha fun whole => ?_) fun σ H Q ⟨F, env, rel, f⟩ => ?_
  · cases x <;> first | rfl | (cases hp; done) | (rename_i o _ _; cases o <;> first | rfl | (cases hp; done))
  · unfold evE at f
    have f1 := f.bind.bind
    have fin : ∀ {d : D} {v : V} {F' H' : Hp} {env' : AM.Env}, Ext F H (Own env σ) F' H' (Own env' σ) → Rel X.K cs F' H' env' σ → RepV X.K cs F' H' d v →
        Fit (match truF d with | some b => R.ok (T.d (.bl b)) env' | none => R.no) (WxOf W X.K cs F H env σ) (fun t env2 => Fit (blF t env2) (WxOf W X.K cs F H env σ) (KbOf X.K cs F H env σ Q)) → ∃ k, TruV X.K v H' k ∧ Q k H' := by
      intro d v F' H' env' x r' rv q
      cases e : truF d with
      | none => rw [e] at q; exact q.elim
      | some b =>
        rw [e] at q
        have q : Q b H' := q F' H' x r'
        refine ⟨b, ?_, q⟩
        unfold truF at e
        split at e
        · cases e; cases rv.bl; exact rfl
        · cases e; cases rv.int; exact rfl
        · cases e; cases rv.non; exact rfl
        · cases e
          obtain ⟨p, vs, rfl, h1, r1⟩ := rv.sql r'.fin
          refine .inl ⟨vs, h1, ?_⟩
          cases r1 <;> rfl
        · cases e
          obtain ⟨p, vs, rfl, h1, r1⟩ := rv.sqt r'.fin
          refine .inr (.inl ⟨vs, h1, ?_⟩)
          cases r1 <;> rfl
        · cases e
    unfold opd at f1
    show tO W X.K cs C a σ H _
    unfold tO
    cases hs : slotOf a with
    | some i =>
      rw [hs] at f1
      simp only at f1
      split at f1
      · rename_i t ht
        obtain ⟨v, hv, rt⟩ := rel.get ht
        exact ⟨v, hv, fin (Ext.refl _ _ _) rel rt.snap f1⟩
      · exact f1.elim
    | none =>
      rw [hs] at f1
      simp only at f1
      refine ⟨F, env, rel, f1.bind.mono (fun _ _ z => z) fun t env1 q v F1 H1 p => ?_⟩
      obtain ⟨F2, p2, s⟩ := p.kept
      exact fin p2.ext p2.rel (.fz p2.rep) q
theorem sl_pe (g : Good P G k cs W N sc X) {x : E} {lo hi : Oe} {a b : Option Expr} {e : Expr} {pos p2 : Pos} (he : PE X e (tO W X.K cs C x))
    (hl : (lo = .no ∧ a = none) ∨ ∃ c y, lo = .yes c ∧ a = some y ∧ PE X y (tE W X.K cs C c)) (hh : (hi = .no ∧ b = none) ∨ ∃ c y, hi = .yes c ∧ b = some y ∧ PE X y (tE W X.K cs C c)) :
    PE X (.Subscript e (.Slice a b none p2) pos) (tE W X.K cs C (.sl x lo hi)) := by
  -- a part
  have part : ∀ (o : Oe) (y : Option Expr), ((o = .no ∧ y = none) ∨ ∃ c z, o = .yes c ∧ y = some z ∧ PE X z (tE W X.K cs C c)) → ∃ t, PO X y t ∧
      ∀ {α : Type} {F H : Hp} {env : AM.Env} {σ : L2.St} {g : Option Int → AM.Env → R α} {Kk : α → AM.Env → Prop} {Q : Option Int → Hp → Prop}, Rel X.K cs F H env σ → Fit ((evP C o env).bind g) (WxOf W X.K cs F H env σ) Kk →
        (∀ i env' F' H', Ext F H (Own env σ) F' H' (Own env' σ) → Rel X.K cs F' H' env' σ → Fit (g i env') (WxOf W X.K cs F' H' env' σ) Kk → Q i H') → t σ H Q := by
    rintro o y (⟨rfl, rfl⟩ | ⟨c, z, rfl, rfl, hz⟩)
    · refine ⟨_, po_none, fun {α F H env σ g Kk Q} r f h => ?_⟩
      unfold evP at f
      exact h none env F H (Ext.refl _ _ _) r f
    · refine ⟨_, po_some hz, fun {α F H env σ g Kk Q} r f h => ?_⟩
      unfold evP at f
      refine ⟨F, env, r, f.bind.bind.mono (fun _ _ z => z) fun t env' q v F' H' p => ?_⟩
      cases t with
      | d d =>
        cases d with
        | int i =>
          cases (show RepD X.K cs F' (.int i) v from p.rep)
          exact ⟨i, rfl, h (some i) env' F' H' p.ext p.rel (Fit.mono q (fun _ _ q => WxOf.move p.ext q) fun _ _ q => q)⟩
        | _ => exact q.elim
      | _ => exact q.elim
  obtain ⟨tl, pl, kl⟩ := part lo a hl
  obtain ⟨th, ph, kh⟩ := part hi b hh
  refine PE.imp (pe_slice (uSl_ok (X := X)) he pl ph) fun σ H Q ⟨F, env, r, f⟩ => ?_
  unfold evE at f
  show tO W X.K cs C x σ H _
  unfold tO
  have fin : ∀ {d : D} {v : V} {l h : Option Int} {F1 H1 F2 H2 : Hp} {env2 : AM.Env}, Rel X.K cs F2 H2 env2 σ → RepV X.K cs F2 H2 d v → Ext F H (Own env σ) F2 H2 (Own env2 σ) →
      Fit (slR d l h env2) (WxOf W X.K cs F2 H2 env2 σ) (KeOf X.K cs F H env σ Q) → uSl X v l h H2 Q := by
    intro d v l h F1 H1 F2 H2 env2 r2 rv x q
    unfold slR at q
    cases e : slF d l h with
    | none => rw [e] at q; exact q.elim
    | some t =>
      rw [e] at q
      exact sl_ok e r2 rv (KeOf.move x q)
  cases hs : slotOf x with
  | some i =>
    rw [hs] at f
    simp only at f
    split at f
    · rename_i t0 h0
      obtain ⟨v, hv, _⟩ := r.get h0
      refine ⟨v, hv, kl r f fun l env1 F1 H1 x1 r1 f1 => kh r1 f1 fun h env2 F2 H2 x2 r2 f2 => ?_⟩
      split at f2
      · rename_i t ht
        obtain ⟨w, hw, rt⟩ := r2.get ht
        rw [hv] at hw; cases hw
        exact fin (F1 := F1) (H1 := H1) r2 rt.snap (x1.trans x2) f2
      · exact f2.elim
    · exact f.elim
  | none =>
    rw [hs] at f
    simp only at f
    refine ⟨F, env, r, f.bind.mono (fun _ _ z => z) fun t env0 q v F0 H0 p => ?_⟩
    obtain ⟨F9, p9, s9⟩ := p.kept
    refine kl p9.rel (Fit.mono q (fun _ _ q => WxOf.move p9.ext q) fun _ _ q => q) fun l env1 F1 H1 x1 r1 f1 => kh r1 f1 fun h env2 F2 H2 x2 r2 f2 => ?_
    exact fin (F1 := F1) (H1 := H1) r2 (.fz (RepD.mono (x1.trans x2).fr p9.rep)) (p9.ext.trans (x1.trans x2)) f2
theorem lastMarks2 {o1 o2 : CmpOp} {b c : Expr} (h1 : isSet b = false) (h2 : isSet c = false) : lastMarks [o1, o2] [b, c] = false := by
  show behindInMarks o2 c = false
  exact nomarkS h2
/-- a op b op c -/
theorem chain_run (g : Good P G k cs W N sc X) {o1 o2 : CmpOp} {a b c : E} {F H : Hp} {env : AM.Env} {σ : L2.St} {Q : VK} (r : Rel X.K cs F H env σ) (f : Fit (evE C (.chain o1 o2 a b c) env) (WxOf W X.K cs F H env σ) (KeOf X.K cs F H env σ Q)) :
    tChain (uOp X (compareOp o1)) (uOp X (compareOp o2)) (tE W X.K cs C a) (tE W X.K cs C b) (tE W X.K cs C c) σ H Q := by
  unfold evE at f
  refine ⟨F, env, r, f.bind.mono (fun _ _ z => z) fun t1 env1 q1 v1 F1 H1 p1 => ?_⟩
  obtain ⟨F1', p1', s1⟩ := p1.kept
  have q1 := Fit.mono q1 (fun _ _ q => WxOf.move p1'.ext q) fun _ _ q => q
  refine ⟨F1', env1, p1'.rel, q1.bind.mono (fun _ _ z => z) fun t2 env2 q2 v2 F2 H2 p2 => ?_⟩
  obtain ⟨F2', p2', s2⟩ := p2.kept
  have q2 := Fit.mono q2 (fun _ _ q => WxOf.move p2'.ext q) fun _ _ q => q
  have rv1 : RepV X.K cs F2' H2 t1.snap v1 := .fz (RepD.mono p2'.ext.fr p1'.rep)
  have rv2 : RepV X.K cs F2' H2 t2.snap v2 := .fz p2'.rep
  cases e : cmpF o1 t1.snap t2.snap with
  | none => rw [e] at q2; exact q2.elim
  | some k =>
    rw [e] at q2
    refine cmp_ok (o := o1) g.room e p2'.rel rv1 rv2 ⟨k, rfl, ?_⟩
    cases k with
    | false => exact iteF (q2 _ F2' H2 ⟨p1'.ext.trans p2'.ext, p2'.rel, .bl false, fun z => by cases z⟩)
    | true =>
      refine iteT ⟨F2', env2, p2'.rel, Fit.mono q2.bind (fun _ _ z => z) fun t3 env3 q3 v3 F3 H3 p3 => ?_⟩
      obtain ⟨F3', p3', s3⟩ := p3.kept
      cases e3 : cmpF o2 t2.snap t3.snap with
      | none => rw [e3] at q3; exact q3.elim
      | some k3 =>
        rw [e3] at q3
        exact cmp_ok (o := o2) g.room e3 p3'.rel (.fz (RepD.mono p3'.ext.fr p2'.rep)) (.fz p3'.rep) (q3 _ F3' H3 ⟨(p1'.ext.trans p2'.ext).trans p3'.ext, p3'.rel, .bl k3, fun z => by cases z⟩)
theorem chain_pe (g : Good P G k cs W N sc X) {o1 o2 : CmpOp} {a b c : E} {a' b' c' : Expr} {pos : Pos} (h1 : isSet b' = false) (h2 : isSet c' = false) (ha : PE X a' (tE W X.K cs C a)) (hb : PE X b' (tE W X.K cs C b)) (hc : PE X c' (tE W X.K cs C c)) :
    PE X (.Compare a' [o1, o2] [b', c'] pos) (tE W X.K cs C (.chain o1 o2 a b c)) :=
  PE.imp (pe_chain (uOp_ok (X := X) (f := compareOp o1)) (uOp_ok (X := X) (f := compareOp o2)) ha hb hc (lastMarks2 h1 h2)) fun _ _ _ ⟨_, _, r, f⟩ => chain_run g r f
theorem chain_pt (g : Good P G k cs W N sc X) {o1 o2 : CmpOp} {a b c : E} {a' b' c' : Expr} {pos : Pos} (h1 : isSet b' = false) (h2 : isSet c' = false) (ha : PE X a' (tE W X.K cs C a)) (hb : PE X b' (tE W X.K cs C b)) (hc : PE X c' (tE W X.K cs C c)) :
    PT X (.Compare a' [o1, o2] [b', c'] pos) (tT W X.K cs C (.chain o1 o2 a b c)) := by
  refine PT.imp (pt_chain (uOp_ok (X := X) (f := compareOp o1)) (uOp_ok (X := X) (f := compareOp o2)) ha hb hc (lastMarks2 h1 h2)) fun σ H Q ⟨F, env, r, f⟩ => ?_
  refine chain_run g r (Q := fun x H' => ∃ k, x = .bl k ∧ Q k H') (f.bind.mono (fun _ _ z => z) fun t env' z v F' H' p => ?_)
  cases t with
  | d d =>
    cases d with
    | bl b =>
      cases (show RepD X.K cs F' (.bl b) v from p.rep)
      exact ⟨b, rfl, z F' H' p.ext p.rel⟩
    | _ => exact z.elim
  | _ => exact z.elim
end
end AM

set_option maxHeartbeats 4000000
namespace AM
open PySem PySem.Spec PyProof.Rows L2
section
variable {P : Tx} {G : Ck} {k : Nat} {cs : Cst} {W : WX} {N : List Str} {sc : Scope} {X : Cx}

/-! ### calls -/
theorem outsOf_length (io : List Nat) (env : AM.Env) : (outsOf io env).length = io.length := by simp [outsOf]
theorem runF_ok {C : Cl} {isa : Nat → Nat → Bool} {fn : Fn} {ts : List T} {t : T} {outs : AM.Env} (h : runF C isa fn ts = .ok t outs) : ts.length = fn.np ∧ outs.length = fn.io.length := by
  unfold runF at h
  split at h
  · rename_i c
    refine ⟨c.1, ?_⟩
    split at h
    · cases h; exact outsOf_length _ _
    · cases h; exact outsOf_length _ _
    · cases h
    · cases h
  · cases h
theorem runF_ex {C : Cl} {isa : Nat → Nat → Bool} {fn : Fn} {ts : List T} {t : AM.X} {outs : AM.Env} (h : runF C isa fn ts = .ex t outs) : ts.length = fn.np ∧ outs.length = fn.io.length := by
  unfold runF at h
  split at h
  · rename_i c
    refine ⟨c.1, ?_⟩
    split at h
    · cases h
    · cases h
    · cases h; exact outsOf_length _ _
    · cases h
  · cases h
theorem call_ok {f : Nat} {ts : List T} {t : T} {outs : AM.Env} (h : P.call k f ts = .ok t outs) : ∃ fn, P.fns[f]? = some fn ∧ ts.length = fn.np ∧ outs.length = (P.io f).length := by
  cases k with
  | zero => cases h
  | succ k =>
    unfold Tx.call at h
    split at h
    · rename_i fn e
      obtain ⟨a, b⟩ := runF_ok h
      refine ⟨fn, e, a, ?_⟩
      unfold Tx.io
      rw [e]
      exact b
    · cases h
theorem call_ex {f : Nat} {ts : List T} {t : AM.X} {outs : AM.Env} (h : P.call k f ts = .ex t outs) : ∃ fn, P.fns[f]? = some fn ∧ ts.length = fn.np ∧ outs.length = (P.io f).length := by
  cases k with
  | zero => cases h
  | succ k =>
    unfold Tx.call at h
    split at h
    · rename_i fn e
      obtain ⟨a, b⟩ := runF_ex h
      refine ⟨fn, e, a, ?_⟩
      unfold Tx.io
      rw [e]
      exact b
    · cases h
theorem pe_callSD0 {CX : CXT} {f : Addr} {fd : FuncData} {ps : List Str} {sp : Sp} {E : L2.St → XK} {x : Str} {p pos : Pos} (F : FnOk X.prog X.w X.K X.mg X.base CX k f fd ps sp) (hr : Room k X.A) (hg : Gl X x) (hm : X.mg x = some (.ref f))
    (hk : PySem.W.keepIn X.K (.ref f) = true) (hb : Binds X.K fd ps []) (hx : ∀ σ, PassesAt CX X σ (E σ)) (hdb : (x == ("__debug__" : Str)) = false) :
    PE X (.Call (.Name x p) [] [] pos) (tCallSD sp [] E tNil) := by
  refine ⟨fun pins s σ H Q I h => ?_⟩
  refine wpAny_Call_Name_kw (ld_glob I hg hm ?_ hdb)
  exact PySem.W.callWith_K0 I.kIn hk (run_fnSD (us := []) F hr hb .nil (hx σ) I .nil h)
theorem call_pe (g : Good P G k cs W N sc X) {f : Nat} {es : Es} {x : Str} {as : List Expr} {p pos : Pos} (hf : G.nm[f]? = some x) (hgl : glB sc x = true) (h : EsOk X W cs (clOf P k) es as) :
    PE X (.Call (.Name x p) as [] pos) (tE W X.K cs (clOf P k) (.call f es)) := by
  obtain ⟨h1, h2, h3⟩ := glB_of hgl
  obtain ⟨a, fd, ps, hm, hk, hb, hF, hnp⟩ := g.fns f x hf
  have main : PE X (.Call (.Name x p) as [] pos) (tCallSD (spF P k f X.K cs ps.length) [] (WE W) (tOs W X.K cs (clOf P k) es)) := by
    cases h with
    | nil => exact pe_callSD0 hF g.room (g.gl h1) hm hk hb (fun σ => passAt g.takes σ) h2
    | cons ha s r => exact pe_callSD hF g.room (g.gl h1) hm hk hb .nil (fun σ => passAt g.takes σ) (EsOk.cons ha s r).pa h2 (s _ _) r.plain
  refine PE.imp main fun σ H Q ⟨F, env, rel, f⟩ => ?_
  unfold evE at f
  refine tOs.mono (args_run es rel f.bind) fun xs H2 ⟨F2, ts, env2, x, r2, A, ar, q⟩ => ?_
  rw [List.append_nil]
  unfold callK at q
  split at q
  · exact q.elim
  · rename_i ok
    have ok : ioOk (P.io _) es.slots = true := ok
    have rc := rel_args r2 A ar ok
    split at q
    · rename_i t outs e
      have e : P.call k _ ts = .ok t outs := e
      obtain ⟨fn, hfn, l1, l2⟩ := call_ok e
      have np := hnp fn hfn
      refine ⟨F2, ts, l1.trans np, rc, ?_⟩
      rw [e]
      intro v F' H' post
      rw [← np, ← l1] at post
      exact (KeOf.move x q) v F' H' (call_post r2 A ok l2 post)
    · rename_i t outs e
      have e : P.call k _ ts = .ex t outs := e
      obtain ⟨fn, hfn, l1, l2⟩ := call_ex e
      have np := hnp fn hfn
      refine ⟨F2, ts, l1.trans np, rc, ?_⟩
      rw [e]
      intro cl d F' H' xx rr rx
      rw [← np, ← l1] at xx rr
      obtain ⟨y1, y2, _⟩ := call_state r2 A ok l2 xx rr
      exact (WxOf.move x q) cl d F' H' y1 y2 rx
    · exact q.elim

/-! ### a slot's own container is changed -/
theorem Rel.put {K : PySem.W.Frag} {F H : Hp} {env : AM.Env} {σ : L2.St} {i : Nat} {p : Addr} {ds ds' : List D} {vs vs' : List V} (r : Rel K cs F H env σ) (he : env.getD i none = some (.l ds)) (hs : σ[i]? = some (some (.ref p))) (hH : H p = some (.lst vs))
    (h : RepDs K cs F ds' vs') : Rel K cs F (upd H p (.lst vs')) (env.set i (some (.l ds'))) σ ∧ Ext F H (Own env σ) F (upd H p (.lst vs')) (Own (env.set i (some (.l ds'))) σ) ∧ F p = none ∧ Own env σ p := by
  have he' := getD_some he
  have own : Own env σ p := ⟨i, .l ds, he', rfl, hs⟩
  have hi : i < env.length := (List.getElem?_eq_some_iff.mp he').1
  obtain ⟨v, hv, q⟩ := r.slot i _ he'
  obtain ⟨p', vs0, e, h0, fp, r0⟩ := q
  rw [hs] at hv; cases hv
  cases e
  have np : ∀ q, F q ≠ none → q ≠ p := fun q h z => h (by rw [z]; exact fp)
  have other : ∀ (j : Nat) (t : T), j ≠ i → env[j]? = some (some t) → ∀ v, σ[j]? = some (some v) → RepT K cs F H t v → RepT K cs F (upd H p (.lst vs')) t v := by
    intro j t hj e v hv rt
    cases t with
    | d d => exact rt
    | l es =>
      obtain ⟨q, ws, e2, g1, g2, g3⟩ := rt
      have qp : q ≠ p := fun z => by
        subst z
        subst e2
        exact hj (r.sep j i _ _ q e he' rfl rfl hv hs)
      exact ⟨q, ws, e2, by rw [upd_ne qp]; exact g1, g2, g3⟩
    | m _ => exact rt.elim
    | o _ _ => exact rt.elim
  refine ⟨⟨by rw [List.length_set]; exact r.len, ⟨fun q u hq => ?_, fun q xs hq => ?_⟩, fun j t e => ?_, fun a b t u q e1 e2 o1 o2 s1 s2 => ?_⟩, ⟨Sub.refl _, fun q o e n => ?_, fun q a b => absurd b a, fun q hq => ?_⟩, fp, own⟩
  · have qp : q ≠ p := np q (by rcases hq with z | ⟨o, z⟩ <;> (rw [z]; intro y; cases y))
    have := r.fin.1 q u hq
    unfold Rd at this ⊢
    rw [upd_ne qp]
    exact this
  · have qp : q ≠ p := np q (by rw [hq]; intro y; cases y)
    rw [upd_ne qp]
    exact r.fin.2 q xs hq
  · by_cases hj : j = i
    · subst hj
      rw [List.getElem?_set_self hi] at e
      cases e
      exact ⟨_, hs, p, vs', rfl, upd_same, fp, h⟩
    · rw [List.getElem?_set_ne (Ne.symm hj)] at e
      obtain ⟨v, hv, rt⟩ := r.slot j t e
      exact ⟨v, hv, other j t hj e v hv rt⟩
  · have fix : ∀ (a : Nat) (t : T), (env.set i (some (.l ds')))[a]? = some (some t) → t.own = true → ∃ t', env[a]? = some (some t') ∧ t'.own = true := fun a t e o => by
      by_cases ha : a = i
      · subst ha; exact ⟨_, he', rfl⟩
      · rw [List.getElem?_set_ne (Ne.symm ha)] at e; exact ⟨t, e, o⟩
    obtain ⟨t', f1, g1⟩ := fix a t e1 o1
    obtain ⟨u', f2, g2⟩ := fix b u e2 o2
    exact r.sep a b t' u' q f1 f2 g1 g2 s1 s2
  · have qp : q ≠ p := fun z => n (by rw [z]; exact own)
    rw [upd_ne qp]
    exact e
  · obtain ⟨j, t, e, o, s⟩ := hq
    left
    by_cases hj : j = i
    · subst hj
      exact ⟨j, _, he', rfl, s⟩
    · rw [List.getElem?_set_ne (Ne.symm hj)] at e
      exact ⟨j, t, e, o, s⟩
theorem ixN_lt {n : Nat} {i : Int} {j : Nat} (h : ixN n i = some j) : j < n := (ixN_seq h).2.1
theorem pop_run {K : PySem.W.Frag} {F H F0 H0 : Hp} {env env0 : AM.Env} {σ : L2.St} {i : Nat} {ds : List D} {xs : List V} {Q : VK} (v : V) (hs : σ[i]? = some (some v)) (x0 : Ext F0 H0 (Own env0 σ) F H (Own env σ)) (r : Rel K cs F H env σ) (rs : RepVs K cs F H ds xs)
    (f : Fit (popR i ds env) (WxOf W K cs F0 H0 env0 σ) (KeOf K cs F0 H0 env0 σ Q)) : rPop v xs H Q ∨ rPopAt v xs H Q := by
  unfold popR at f
  split at f
  · rename_i ys e0
    cases rs
    obtain ⟨v', hs', p, vs, rfl, hH, hF, rd⟩ := r.get e0
    rw [hs] at hs'; cases hs'
    split at f
    · rename_i y hy
      obtain ⟨w, hw, rw'⟩ := rd.get hy
      obtain ⟨r2, x2, _, _⟩ := r.put e0 hs hH rd.dropLast
      exact .inl ⟨p, vs, w, rfl, rfl, hH, by rw [← rd.length]; exact hw, (KeOf.move x0 f) w F _ ⟨x2, r2, rw', fun z => by cases z⟩⟩
    · exact f.elim
  · rename_i ys k e0
    cases rs with
    | cons h0 rs =>
      cases rs
      cases h0.int
      obtain ⟨v', hs', p, vs, rfl, hH, hF, rd⟩ := r.get e0
      rw [hs] at hs'; cases hs'
      split at f
      · rename_i hk
        split at f
        · rename_i j hj
          split at f
          · rename_i y hy
            obtain ⟨w, hw, rw'⟩ := rd.get hy
            obtain ⟨r2, x2, _, _⟩ := r.put e0 hs hH (rd.eraseIdx j)
            rw [rd.length] at hj
            exact .inr ⟨p, vs, _, j, w, rfl, rfl, hH, hk.1, hk.2, (ixN_seq hj).1, hw, (KeOf.move x0 f) w F _ ⟨x2, r2, rw', fun z => by cases z⟩⟩
          · exact f.elim
        · exact f.elim
      · exact f.elim
  · exact f.elim
theorem pop_pe (g : Good P G k cs W N sc X) {C : Cl} {i : Nat} {es : Es} {x : Str} {as : List Expr} {p apos pos : Pos} (hn : nameB N sc i x = true) (h : EsOk X W cs C es as) (hl : (apos.endLine == pos.line) = true) (hz : as.length ≤ 1) :
    PE X (.Call (.Attribute (.Name x p) (Str.ofString "pop") apos) as [] pos) (tE W X.K cs C (.pop i es)) := by
  have hv := pe_name (pos := p) g hn
  have hm : MtR X "list.pop" (fun x xs H Q => rPop x xs H Q ∨ rPopAt x xs H Q) := MtR.or (show MtR X "list.pop" rPop from mt_pop) (show MtR X "list.pop" rPopAt from mt_popAt)
  cases h with
  | nil =>
    refine PE.imp (pe_bm0 PySem.F.plainAttrs_list PySem.F.slot_list_pop PySem.F.type_list_pop hm hv rfl hl) fun σ H Q ⟨F, env, r, f⟩ => ?_
    unfold evE at f
    split at f
    · rename_i xs e0
      obtain ⟨v, hs, p, vs, rfl, hH, hF, rd⟩ := r.get e0
      unfold evEs at f
      rw [R.bind_ok] at f
      exact ⟨_, hs, .inl ⟨rfl, _, .inl (.inl hH)⟩, pop_run _ hs (Ext.refl _ _ _) r .nil f⟩
    · exact f.elim
  | @cons e es' a as' ha s rr =>
    cases as' with
    | nil =>
      have hall := EsOk.pa (EsOk.cons ha s rr)
      refine PE.imp (pe_bm PySem.F.plainAttrs_list PySem.F.slot_list_pop PySem.F.type_list_pop hm hv hall rfl (by rw [s]; rfl) hl (s _ _) rfl) fun σ H Q ⟨F, env, r, f⟩ => ?_
      unfold evE at f
      split at f
      · rename_i xs e0
        obtain ⟨v, hs, p, vs, rfl, hH, hF, rd⟩ := r.get e0
        refine ⟨_, hs, .inl ⟨rfl, _, .inl (.inl hH)⟩, tOs.mono (ops_run _ r f.bind) fun ws H2 ⟨F2, ds, env2, x2, r2, rs, q⟩ => ?_⟩
        exact pop_run _ hs x2 r2 rs q
      · exact f.elim
    | cons b bs => simp at hz
end
end AM

set_option maxHeartbeats 4000000
/-! what is walked: iterators, targets -/
namespace AM
open PySem PySem.Spec PyProof.Rows L2
section
variable {P : Tx} {G : Ck} {k : Nat} {cs : Cst} {W : WX} {N : List Str} {sc : Scope} {X : Cx} {C : Cl}

/-! ### targets -/
mutual
def gPt (K : PySem.W.Frag) : Pt → TG
  | .name i => gName i
  | .tup ps => gTup K ps.len (gPts K ps)
def gPts (K : PySem.W.Frag) : Pts → TGs
  | .nil => gNil
  | .cons p ps => gCons (gPt K p) (gPts K ps)
def Pts.len : Pts → Nat
  | .nil => 0
  | .cons _ ps => ps.len + 1
end
theorem locB_of {x : Str} (h : locB sc x = true) : Loc sc x := by
  unfold locB at h
  split at h
  · rename_i e; exact .inl e
  · rename_i e; exact .inr e
  · cases h
theorem asgEach {N : List Str} {sc : Scope} : ∀ {ps : Pts} {es : List Expr} (env : PySem.Env), chkPts N sc ps es = true → (assignEach es env).length = ps.len ∧ (assignEach es env).findIdx? (·.1) = none
  | .nil, [], env, _ => ⟨rfl, rfl⟩
  | .nil, _ :: _, _, h => by simp [chkPts] at h
  | .cons _ _, [], _, h => by simp [chkPts] at h
  | .cons p ps, e :: es, env, h => by
    unfold chkPts at h
    rw [Bool.and_eq_true] at h
    obtain ⟨a, b⟩ := asgEach env h.2
    have st : assignEach (e :: es) env = (false, assign e env) :: assignEach es env := by
      cases e <;> first | rfl | (exfalso; cases p <;> simp [chkPt] at h)
    rw [st]
    refine ⟨by rw [List.length_cons, a]; rfl, ?_⟩
    rw [List.findIdx?_cons, b]
    rfl
mutual
theorem pt_pg (hN : X.N = N) (nd : N.Nodup) (hc : X.calm = true) (hf : ∀ x, locB sc x = true → Loc X.env.scope x ∧ (X.fn x = true ∨ X.env.scope.names.lookup x = some .local)) : ∀ (p : Pt) (e : Expr), chkPt N sc p e = true → PG X e (gPt X.K p)
  | .name i, e, h => by
    cases e <;> first | (simp [chkPt] at h; done) | skip
    rename_i x pos
    unfold chkPt at h
    rw [Bool.and_eq_true] at h
    obtain ⟨hx, hf'⟩ := hf x h.2
    simp only [gPt]
    exact pg_name (by rw [hN]; exact nd) (by rw [hN]; exact of_decide_eq_true h.1) hx hf'
  | .tup ps, e, h => by
    cases e <;> first | (simp [chkPt] at h; done) | skip
    rename_i es j pos
    unfold chkPt at h
    obtain ⟨a, b⟩ := asgEach X.env h
    simp only [gPt]
    exact pg_tup hc (pts_pg hN nd hc hf ps es h) a b
theorem pts_pg (hN : X.N = N) (nd : N.Nodup) (hc : X.calm = true) (hf : ∀ x, locB sc x = true → Loc X.env.scope x ∧ (X.fn x = true ∨ X.env.scope.names.lookup x = some .local)) : ∀ (p : Pts) (es : List Expr), chkPts N sc p es = true → PGs X es (gPts X.K p)
  | .nil, [], h => by simp only [gPts]; exact pgs_nil
  | .nil, _ :: _, h => by simp [chkPts] at h
  | .cons _ _, [], h => by simp [chkPts] at h
  | .cons p ps, e :: es, h => by
    have h0 := h
    unfold chkPts at h
    rw [Bool.and_eq_true] at h
    simp only [gPts]
    refine pgs_cons (pt_pg hN nd hc hf p e h.1) (pts_pg hN nd hc hf ps es h.2) ?_
    cases e <;> first | rfl | (exfalso; cases p <;> simp [chkPt] at h)
end
/-- a slot is stored anew with a value that stays -/
theorem Rel.setD {K : PySem.W.Frag} {F H : Hp} {env : AM.Env} {σ : L2.St} {i : Nat} {d : D} {v : V} (r : Rel K cs F H env σ) (hi : i < env.length) (h : RepD K cs F d v) :
    Rel K cs F H (env.set i (some (.d d))) (σ.set i (some v)) ∧ ∀ p, Own (env.set i (some (.d d))) (σ.set i (some v)) p → Own env σ p := by
  have hiσ : i < σ.length := by rw [← r.len]; exact hi
  have back : ∀ (j : Nat) (t : T), (env.set i (some (.d d)))[j]? = some (some t) → t.own = true → j ≠ i ∧ env[j]? = some (some t) := fun j t e o => by
    by_cases hj : j = i
    · subst hj
      rw [List.getElem?_set_self hi] at e
      cases e; cases o
    · rw [List.getElem?_set_ne (Ne.symm hj)] at e
      exact ⟨hj, e⟩
  refine ⟨⟨by rw [List.length_set, List.length_set]; exact r.len, r.fin, fun j t e => ?_, fun a b t u p e1 e2 o1 o2 s1 s2 => ?_⟩, fun p hp => ?_⟩
  · by_cases hj : j = i
    · subst hj
      rw [List.getElem?_set_self hi] at e
      cases e
      exact ⟨v, List.getElem?_set_self hiσ, h⟩
    · rw [List.getElem?_set_ne (Ne.symm hj)] at e ⊢
      exact r.slot j t e
  · obtain ⟨n1, f1⟩ := back a t e1 o1
    obtain ⟨n2, f2⟩ := back b u e2 o2
    rw [List.getElem?_set_ne (Ne.symm n1)] at s1
    rw [List.getElem?_set_ne (Ne.symm n2)] at s2
    exact r.sep a b t u p f1 f2 o1 o2 s1 s2
  · obtain ⟨j, t, e, o, s⟩ := hp
    obtain ⟨n1, f1⟩ := back j t e o
    rw [List.getElem?_set_ne (Ne.symm n1)] at s
    exact ⟨j, t, f1, o, s⟩
mutual
theorem bind_run {K : PySem.W.Frag} {F H : Hp} : ∀ (p : Pt) {d : D} {v : V} {env env' : AM.Env} {σ : L2.St} {Q : L2.St → Hp → Prop}, bindPt p d env = some env' → Rel K cs F H env σ → RepD K cs F d v →
    (∀ σ', Rel K cs F H env' σ' → (∀ q, Own env' σ' q → Own env σ q) → (∀ j, j ∉ p.slots → σ'[j]? = σ[j]?) → σ'.length = σ.length → Q σ' H) → gPt K p v σ H Q
  | .name i, d, v, env, env', σ, Q, e, r, h, q => by
    unfold bindPt at e
    split at e
    · rename_i hi
      cases e
      obtain ⟨r2, o⟩ := r.setD hi h
      simp only [gPt]
      exact q _ r2 o (fun j hj => List.getElem?_set_ne (fun z => hj (by simp [Pt.slots, z]))) (by simp)
    · cases e
  | .tup ps, d, v, env, env', σ, Q, e, r, h, q => by
    cases h with
    | tup ha hd =>
      simp only [bindPt] at e
      simp only [gPt]
      refine ⟨_, _, rfl, r.fin.sqt ha, ?_, binds_run ps e r hd fun σ' r' o s l => q σ' r' o (fun j hj => s j (by simpa [Pt.slots] using hj)) l⟩
      rw [← hd.length]
      exact bindPts_len ps e
    | _ => simp [bindPt] at e
theorem binds_run {K : PySem.W.Frag} {F H : Hp} : ∀ (p : Pts) {d : List D} {v : List V} {env env' : AM.Env} {σ : L2.St} {Q : L2.St → Hp → Prop}, bindPts p d env = some env' → Rel K cs F H env σ → RepDs K cs F d v →
    (∀ σ', Rel K cs F H env' σ' → (∀ q, Own env' σ' q → Own env σ q) → (∀ j, j ∉ p.slots → σ'[j]? = σ[j]?) → σ'.length = σ.length → Q σ' H) → gPts K p v σ H Q
  | .nil, d, v, env, env', σ, Q, e, r, h, q => by
    cases h with
    | nil =>
      simp only [bindPts, Option.some.injEq] at e
      subst e
      simp only [gPts]
      exact ⟨rfl, q σ r (fun _ z => z) (fun _ _ => rfl) rfl⟩
    | cons _ _ => simp [bindPts] at e
  | .cons p ps, d, v, env, env', σ, Q, e, r, h, q => by
    cases h with
    | nil => simp [bindPts] at e
    | cons h1 h2 =>
      simp only [bindPts] at e
      simp only [gPts]
      split at e
      · rename_i env1 e1
        refine ⟨_, _, rfl, bind_run p e1 r h1 fun σ1 r1 o1 s1 l1 => binds_run ps e r1 h2 fun σ2 r2 o2 s2 l2 => q σ2 r2 (fun q z => o1 q (o2 q z)) (fun j hj => ?_) (l2.trans l1)⟩
        rw [Pts.slots, List.mem_append, not_or] at hj
        exact (s2 j hj.2).trans (s1 j hj.1)
      · cases e
theorem bindPts_len : ∀ (p : Pts) {d : List D} {env env' : AM.Env}, bindPts p d env = some env' → d.length = p.len
  | .nil, [], _, _, _ => rfl
  | .nil, _ :: _, _, _, e => by simp [bindPts] at e
  | .cons _ _, [], _, _, e => by simp [bindPts] at e
  | .cons p ps, d :: ds, env, env', e => by
    simp only [bindPts] at e
    split at e
    · rw [List.length_cons, bindPts_len ps e]; rfl
    · cases e
end

/-! ### iterators -/
structure ItOk (K : PySem.W.Frag) (cs : Cst) (J : L2.It) (ds : List D) (Cn : Hp → Hp → Prop) (Fp : Addr → Prop) : Prop where
  go : ∀ F H (i : Nat), Cn F H → i < ds.length → J.go i H
  stop : ∀ F H (i : Nat), Cn F H → ds.length ≤ i → J.stop i H
  yld : ∀ F H (env : AM.Env) (σ : L2.St) (i : Nat) x H' d, Cn F H → Rel K cs F H env σ → J.yld i H x H' → ds[i]? = some d →
    ∃ F', Rel K cs F' H' env σ ∧ Ext F H (Own env σ) F' H' (Own env σ) ∧ Cn F' H' ∧ RepD K cs F' d x
  keep : ∀ F H (O : Addr → Prop) F' H' (O' : Addr → Prop), Cn F H → Ext F H O F' H' O' → (∀ p, Fp p → ¬ O p) → Cn F' H'
  live : ∀ F H p, Cn F H → Fp p → H p ≠ none
theorem zipIdx_get {ds : List D} {i : Nat} {d : D} (h : (enumF ds)[i]? = some d) : ∃ x, ds[i]? = some x ∧ d = .tup [.int i, x] := by
  unfold enumF at h
  rw [List.getElem?_map, List.getElem?_zipIdx] at h
  cases e : ds[i]? with
  | none => rw [e] at h; cases h
  | some x =>
    rw [e] at h
    simp at h
    exact ⟨x, rfl, h.symm⟩
theorem enumF_length (ds : List D) : (enumF ds).length = ds.length := by simp [enumF]
theorem rd_live {H : Hp} {a : Addr} {u : HO} (h : Rd H a u) : H a ≠ none := by
  rcases h with h | ⟨o, h⟩ <;> (rw [h]; intro z; cases z)
theorem rd_keep {F H F' H' : Hp} {O O' : Addr → Prop} {a : Addr} {u : HO} (h : Rd H a u) (x : Ext F H O F' H' O') (n : ¬ O a) : Rd H' a u := by
  rcases h with h | ⟨o, h⟩
  · exact .inl (x.keep a _ h n)
  · exact .inr ⟨o, x.keep a _ h n⟩
theorem rd_upd2 {H : Hp} {a p : Addr} {u o : HO} (hp : H p = none) (h : Rd H a u) : Rd (upd H p o) a u := by
  have na : a ≠ p := fun z => rd_live h (by rw [z]; exact hp)
  unfold Rd
  rw [upd_ne na]
  exact h
theorem KpL.keep {K : PySem.W.Frag} {F H F' H' : Hp} {O O' : Addr → Prop} (x : Ext F H O F' H' O') : ∀ {b : Bool} {a : Addr} {vs : List V}, KpL K H b a vs → (b = false → ¬ O a) → KpL K H' b a vs
  | false, _, _, h, n => rd_keep (u := .lst _) h x (n rfl)
  | true, _, _, h, _ => h
theorem KpT.keep {K : PySem.W.Frag} {F H F' H' : Hp} {O O' : Addr → Prop} (x : Ext F H O F' H' O') : ∀ {b : Bool} {a : Addr} {vs : List V}, KpT K H b a vs → (b = false → ¬ O a) → KpT K H' b a vs
  | false, _, _, h, n => rd_keep (u := .tup _) h x (n rfl)
  | true, _, _, h, _ => h
theorem KpL.upd {K : PySem.W.Frag} {H : Hp} {p : Addr} {o : HO} (hp : H p = none) : ∀ {b : Bool} {a : Addr} {vs : List V}, KpL K H b a vs → KpL K (upd H p o) b a vs
  | false, _, _, h => rd_upd2 (u := .lst _) hp h
  | true, _, _, h => h
theorem KpT.upd {K : PySem.W.Frag} {H : Hp} {p : Addr} {o : HO} (hp : H p = none) : ∀ {b : Bool} {a : Addr} {vs : List V}, KpT K H b a vs → KpT K (upd H p o) b a vs
  | false, _, _, h => rd_upd2 (u := .tup _) hp h
  | true, _, _, h => h
theorem KpL.live {K : PySem.W.Frag} {H : Hp} : ∀ {b : Bool} {a : Addr} {vs : List V}, KpL K H b a vs → b = false → H a ≠ none
  | false, _, _, h, _ => rd_live (u := .lst _) h
  | true, _, _, _, e => by cases e
theorem KpT.live {K : PySem.W.Frag} {H : Hp} : ∀ {b : Bool} {a : Addr} {vs : List V}, KpT K H b a vs → b = false → H a ≠ none
  | false, _, _, h, _ => rd_live (u := .tup _) h
  | true, _, _, _, e => by cases e
theorem itl_ok {K : PySem.W.Frag} {b : Bool} {a : Addr} {ds : List D} : ItOk K cs (Itl K a) ds (fun F H => ∃ vs, KpL K H b a vs ∧ RepDs K cs F ds vs) (fun p => b = false ∧ p = a) where
  go := fun F H i ⟨vs, h, r⟩ hi => by
    rw [r.length] at hi
    exact ⟨vs, vs[i], h.at.sq, List.getElem?_eq_getElem hi⟩
  stop := fun F H i ⟨vs, h, r⟩ hi => ⟨vs, h.at.sq, by rw [← r.length]; exact hi⟩
  yld := fun F H env σ i x H' d ⟨vs, h, r⟩ rel ⟨e, y⟩ hd => by
    subst e
    obtain ⟨v, hv, rd⟩ := r.get hd
    have := y vs h.at.sq
    rw [hv] at this; cases this
    exact ⟨F, rel, Ext.refl _ _ _, ⟨vs, h, r⟩, rd⟩
  keep := fun F H O F' H' O' ⟨vs, h, r⟩ x n => ⟨vs, h.keep x fun z => n a ⟨z, rfl⟩, r.mono x.fr⟩
  live := fun F H p ⟨vs, h, r⟩ ⟨z, e⟩ => by rw [e]; exact h.live z
theorem itt_ok {K : PySem.W.Frag} {b : Bool} {a : Addr} {ds : List D} : ItOk K cs (Itt K a) ds (fun F H => ∃ vs, KpT K H b a vs ∧ RepDs K cs F ds vs) (fun p => b = false ∧ p = a) where
  go := fun F H i ⟨vs, h, r⟩ hi => by
    rw [r.length] at hi
    exact ⟨vs, vs[i], h.at, List.getElem?_eq_getElem hi⟩
  stop := fun F H i ⟨vs, h, r⟩ hi => ⟨vs, h.at, by rw [← r.length]; exact hi⟩
  yld := fun F H env σ i x H' d ⟨vs, h, r⟩ rel ⟨e, y⟩ hd => by
    subst e
    obtain ⟨v, hv, rd⟩ := r.get hd
    have := y vs h.at
    rw [hv] at this; cases this
    exact ⟨F, rel, Ext.refl _ _ _, ⟨vs, h, r⟩, rd⟩
  keep := fun F H O F' H' O' ⟨vs, h, r⟩ x n => ⟨vs, h.keep x fun z => n a ⟨z, rfl⟩, r.mono x.fr⟩
  live := fun F H p ⟨vs, h, r⟩ ⟨z, e⟩ => by rw [e]; exact h.live z
theorem itr_ok {K : PySem.W.Frag} {lo : Int} {n : Nat} : ItOk K cs (Itr lo n) ((List.range n).map fun (i : Nat) => D.int (lo + i)) (fun _ _ => True) (fun _ => False) where
  go := fun F H i _ hi => by
    show i < n
    simpa using hi
  stop := fun F H i _ hi => by
    show n ≤ i
    simpa using hi
  yld := fun F H env σ i x H' d _ rel ⟨e, y⟩ hd => by
    subst e y
    rw [List.getElem?_map] at hd
    cases q : (List.range n)[i]? with
    | none => rw [q] at hd; cases hd
    | some j =>
      rw [q] at hd
      have ij : i = j := by
        have := (List.getElem?_eq_some_iff.mp q).2
        simpa using this
      subst ij
      cases hd
      exact ⟨F, rel, Ext.refl _ _ _, trivial, .int _⟩
  keep := fun _ _ _ _ _ _ _ _ _ => trivial
  live := fun _ _ _ _ e => e.elim
theorem ite_ok {K : PySem.W.Frag} {b : Bool} {a : Addr} {ds : List D} : ItOk K cs (Ite K a) (enumF ds) (fun F H => ∃ vs, KpL K H b a vs ∧ RepDs K cs F ds vs) (fun p => b = false ∧ p = a) where
  go := fun F H i ⟨vs, h, r⟩ hi => by
    rw [enumF_length, r.length] at hi
    exact ⟨vs, vs[i], h.at.sq, List.getElem?_eq_getElem hi⟩
  stop := fun F H i ⟨vs, h, r⟩ hi => ⟨vs, h.at.sq, by rw [← r.length, ← enumF_length]; exact hi⟩
  yld := fun F H env σ i x H' d ⟨vs, h, r⟩ rel ⟨T, y, e, hT, e2, hy⟩ hd => by
    subst e e2
    obtain ⟨d0, h0, e⟩ := zipIdx_get hd
    subst e
    obtain ⟨v, hv, rd⟩ := r.get h0
    have ev := hy vs h.at.sq
    rw [hv] at ev
    have ev : v = y := Option.some.inj ev
    subst ev
    obtain ⟨r2, x⟩ := rel.newF (o := .tup [.int (i : Nat), v]) hT
    exact ⟨_, r2, x, ⟨vs, h.upd hT, r.mono x.fr⟩, .tup (.inl (.inl upd_same)) (.cons (.int _) (.cons (RepD.mono x.fr rd) .nil))⟩
  keep := fun F H O F' H' O' ⟨vs, h, r⟩ x n => ⟨vs, h.keep x fun z => n a ⟨z, rfl⟩, r.mono x.fr⟩
  live := fun F H p ⟨vs, h, r⟩ ⟨z, e⟩ => by rw [e]; exact h.live z
theorem zipF_get {ds es : List D} {i : Nat} {d : D} (h : (zipF ds es)[i]? = some d) : ∃ x y, ds[i]? = some x ∧ es[i]? = some y ∧ d = .tup [x, y] := by
  unfold zipF at h
  rw [List.getElem?_map] at h
  cases e : (ds.zip es)[i]? with
  | none => rw [e] at h; cases h
  | some p =>
    rw [e] at h
    obtain ⟨h1, h2⟩ := List.getElem?_zip_eq_some.mp e
    simp at h
    exact ⟨p.1, p.2, h1, h2, h.symm⟩
theorem zipF_length (ds es : List D) : (zipF ds es).length = min ds.length es.length := by simp [zipF]
theorem itz_ok {K : PySem.W.Frag} {ka kb : Bool} {a b : Addr} {ds es : List D} : ItOk K cs (Itz K a b) (zipF ds es) (fun F H => (∃ vs, KpL K H ka a vs ∧ RepDs K cs F ds vs) ∧ ∃ vs, KpL K H kb b vs ∧ RepDs K cs F es vs) (fun p => (ka = false ∧ p = a) ∨ (kb = false ∧ p = b)) where
  go := fun F H i ⟨⟨vs, h, r⟩, ws, g, q⟩ hi => by
    rw [zipF_length, r.length, q.length] at hi
    have h1 : i < vs.length := by omega
    have h2 : i < ws.length := by omega
    exact ⟨vs, ws, vs[i], ws[i], h.at.sq, g.at.sq, List.getElem?_eq_getElem h1, List.getElem?_eq_getElem h2⟩
  stop := fun F H i ⟨⟨vs, h, r⟩, ws, g, q⟩ hi => by
    rw [zipF_length, r.length, q.length] at hi
    exact ⟨vs, ws, h.at.sq, g.at.sq, by omega⟩
  yld := fun F H env σ i x H' d ⟨⟨vs, h, r⟩, ws, g, q⟩ rel ⟨T, y1, y2, e, hT, e2, hy1, hy2⟩ hd => by
    subst e e2
    obtain ⟨d1, d2, h1, h2, e⟩ := zipF_get hd
    subst e
    obtain ⟨v, hv, rd⟩ := r.get h1
    obtain ⟨w, hw, rd2⟩ := q.get h2
    have ev := hy1 vs h.at.sq
    rw [hv] at ev
    have ev : v = y1 := Option.some.inj ev
    subst ev
    have ew := hy2 ws g.at.sq
    rw [hw] at ew
    have ew : w = y2 := Option.some.inj ew
    subst ew
    obtain ⟨r2, x⟩ := rel.newF (o := .tup [v, w]) hT
    exact ⟨_, r2, x, ⟨⟨vs, h.upd hT, r.mono x.fr⟩, ws, g.upd hT, q.mono x.fr⟩, .tup (.inl (.inl upd_same)) (.cons (RepD.mono x.fr rd) (.cons (RepD.mono x.fr rd2) .nil))⟩
  keep := fun F H O F' H' O' ⟨⟨vs, h, r⟩, ws, g, q⟩ x n => ⟨⟨vs, h.keep x fun z => n a (.inl ⟨z, rfl⟩), r.mono x.fr⟩, ws, g.keep x fun z => n b (.inr ⟨z, rfl⟩), q.mono x.fr⟩
  live := fun F H p ⟨⟨vs, h, r⟩, ws, g, q⟩ e => by
    rcases e with ⟨z, e⟩ | ⟨z, e⟩
    · rw [e]; exact h.live z
    · rw [e]; exact g.live z
theorem itzt_ok {K : PySem.W.Frag} {ka kb : Bool} {a b : Addr} {ds es : List D} : ItOk K cs (RZ.ItzT K a b) (zipF ds es) (fun F H => (∃ vs, KpT K H ka a vs ∧ RepDs K cs F ds vs) ∧ ∃ vs, KpT K H kb b vs ∧ RepDs K cs F es vs) (fun p => (ka = false ∧ p = a) ∨ (kb = false ∧ p = b)) where
  go := fun F H i ⟨⟨vs, h, r⟩, ws, g, q⟩ hi => by
    rw [zipF_length, r.length, q.length] at hi
    have h1 : i < vs.length := by omega
    have h2 : i < ws.length := by omega
    exact ⟨vs, ws, vs[i], ws[i], h.at, g.at, List.getElem?_eq_getElem h1, List.getElem?_eq_getElem h2⟩
  stop := fun F H i ⟨⟨vs, h, r⟩, ws, g, q⟩ hi => by
    rw [zipF_length, r.length, q.length] at hi
    exact ⟨vs, ws, h.at, g.at, by omega⟩
  yld := fun F H env σ i x H' d ⟨⟨vs, h, r⟩, ws, g, q⟩ rel ⟨T, y1, y2, e, hT, e2, hy1, hy2⟩ hd => by
    subst e e2
    obtain ⟨d1, d2, h1, h2, e⟩ := zipF_get hd
    subst e
    obtain ⟨v, hv, rd⟩ := r.get h1
    obtain ⟨w, hw, rd2⟩ := q.get h2
    have ev := hy1 vs h.at
    rw [hv] at ev
    have ev : v = y1 := Option.some.inj ev
    subst ev
    have ew := hy2 ws g.at
    rw [hw] at ew
    have ew : w = y2 := Option.some.inj ew
    subst ew
    obtain ⟨r2, x⟩ := rel.newF (o := .tup [v, w]) hT
    exact ⟨_, r2, x, ⟨⟨vs, h.upd hT, r.mono x.fr⟩, ws, g.upd hT, q.mono x.fr⟩, .tup (.inl (.inl upd_same)) (.cons (RepD.mono x.fr rd) (.cons (RepD.mono x.fr rd2) .nil))⟩
  keep := fun F H O F' H' O' ⟨⟨vs, h, r⟩, ws, g, q⟩ x n => ⟨⟨vs, h.keep x fun z => n a (.inl ⟨z, rfl⟩), r.mono x.fr⟩, ws, g.keep x fun z => n b (.inr ⟨z, rfl⟩), q.mono x.fr⟩
  live := fun F H p ⟨⟨vs, h, r⟩, ws, g, q⟩ e => by
    rcases e with ⟨z, e⟩ | ⟨z, e⟩
    · rw [e]; exact h.live z
    · rw [e]; exact g.live z

theorem PI.imp {tg iter : Expr} {t t' : TI} (h : PI X tg iter t) (q : ∀ σ H R, t' σ H R → t σ H R) : PI X tg iter t' := ⟨fun pins s σ H R I w => h.run pins s σ H R I (q σ H R w)⟩
/-- a list or a tuple -/
def iSeq (K : PySem.W.Frag) (tl : TE) : TI := fun σ H R => tl σ H fun x H1 => ∃ a, x = .ref a ∧ (((∃ xs, SqL K H1 a xs) ∧ R (Itl K a) H1) ∨ ((∃ xs, SqT K H1 a xs) ∧ R (Itt K a) H1))
theorem pi_seq {tg l : Expr} {tl : TE} (hl : PE X l tl) : PI X tg l (iSeq X.K tl) := by
  refine ⟨fun pins s σ H R I h => ?_⟩
  refine thn (hl.run pins s σ H _ I h) fun v s1 ⟨x, H1, I1, r1, q1⟩ => ?_
  obtain ⟨a, e, ⟨⟨xs, hq⟩, q⟩ | ⟨⟨xs, hq⟩, q⟩⟩ := q1
  · subst e
    cases r1
    obtain ⟨its, rv, p, hz⟩ := I1.list hq
    refine wpAny_pyIter_list p.isList ?_
    refine ⟨s1.heap.objs.size, [s1.heap.objs.size], _, _, H1, rfl, I1.kept (t' := s1.toks) fun b o e => Heap.get?_push_of_some _ e, turn_list a _, ⟨_, Heap.get?_push_size _ rfl, rfl, rfl⟩, fun b hb => ?_, q⟩
    have e : b = s1.heap.objs.size := by simpa using hb
    subst e
    exact I1.fpOk (Nat.le_refl _) (I1.hok.fresh (Nat.le_refl _))
  · subst e
    cases r1
    obtain ⟨its, rv, p, hz⟩ := I1.tuple hq
    refine wpAny_pyIter_tuple (show s1.heap.IsTuple a its.toArray from p) ?_
    refine ⟨s1.heap.objs.size, [s1.heap.objs.size], _, _, H1, rfl, I1.kept (t' := s1.toks) fun b o e => Heap.get?_push_of_some _ e, turn_tuple a _, ⟨_, Heap.get?_push_size _ rfl, rfl, rfl⟩, fun b hb => ?_, q⟩
    have e : b = s1.heap.objs.size := by simpa using hb
    subst e
    exact I1.fpOk (Nat.le_refl _) (I1.hok.fresh (Nat.le_refl _))
/-- what a walk promises -/
def wI (W : WX) (K : PySem.W.Frag) (cs : Cst) (C : Cl) (it : AM.It) : TI := fun σ H R => ∃ F env, Rel K cs F H env σ ∧ Fit (evI C it env) (WxOf W K cs F H env σ) (fun ds env' =>
  ∀ F' H' J Cn Fp, Ext F H (Own env σ) F' H' (Own env' σ) → Rel K cs F' H' env' σ → ItOk K cs J ds Cn Fp → Cn F' H' → (∀ p, Fp p → ¬ Own (wipeE env' it.lk) σ p) → R J H')
end
end AM

set_option maxHeartbeats 4000000
/-! comprehensions -/
namespace AM
open PySem PySem.Spec PyProof.Rows L2
section
variable {K : PySem.W.Frag} {cs : Cst} {F H F1 H1 : Hp} {env env0 env9 : AM.Env} {σ σ0 σ9 σT : L2.St} {l own : List Nat}
theorem wipeE_length : ∀ l : List Nat, (wipeE env l).length = env.length
  | [] => rfl
  | v :: vs => by unfold wipeE; rw [List.length_set, wipeE_length vs]
theorem wipeE_out {i : Nat} : ∀ {l : List Nat}, i ∉ l → (wipeE env l)[i]? = env[i]?
  | [], _ => rfl
  | v :: vs, h => by
    rw [List.mem_cons, not_or] at h
    unfold wipeE
    rw [List.getElem?_set_ne (Ne.symm h.1)]
    exact wipeE_out h.2
theorem wipeE_some {i : Nat} {t : T} : ∀ {l : List Nat}, (wipeE env l)[i]? = some (some t) → i ∉ l ∧ env[i]? = some (some t)
  | [], h => ⟨by simp, h⟩
  | v :: vs, h => by
    unfold wipeE at h
    by_cases hi : i = v
    · subst hi
      by_cases hl : i < (wipeE env vs).length
      · rw [List.getElem?_set_self hl] at h; cases h
      · rw [List.getElem?_eq_none (by rw [List.length_set]; omega)] at h; cases h
    · rw [List.getElem?_set_ne (Ne.symm hi)] at h
      obtain ⟨a, b⟩ := wipeE_some h
      exact ⟨by rw [List.mem_cons, not_or]; exact ⟨hi, a⟩, b⟩
theorem backE_length : ∀ l : List Nat, (backE env env0 l).length = env.length
  | [] => rfl
  | v :: vs => by unfold backE; rw [List.length_set, backE_length vs]
theorem backE_out {i : Nat} : ∀ {l : List Nat}, i ∉ l → (backE env env0 l)[i]? = env[i]?
  | [], _ => rfl
  | v :: vs, h => by
    rw [List.mem_cons, not_or] at h
    unfold backE
    rw [List.getElem?_set_ne (Ne.symm h.1)]
    exact backE_out h.2
theorem backE_in {i : Nat} : ∀ {l : List Nat}, i ∈ l → i < env.length → (backE env env0 l)[i]? = some (env0.getD i none)
  | [], h, _ => by cases h
  | v :: vs, h, hl => by
    unfold backE
    by_cases hi : i = v
    · subst hi
      rw [List.getElem?_set_self (by rw [backE_length]; exact hl)]
    · rw [List.getElem?_set_ne (Ne.symm hi)]
      exact backE_in (by rcases List.mem_cons.mp h with z | z; exact absurd z hi; exact z) hl
theorem Rel.wiped (r : Rel K cs F H env σ) (h : ∀ i ∈ own, i ∈ l) : Rel K cs F H (wipeE env l) (wipe σ own) ∧
    ∀ p, Own (wipeE env l) (wipe σ own) p → ∃ (i : Nat) (t : T), i ∉ l ∧ env[i]? = some (some t) ∧ t.own = true ∧ σ[i]? = some (some (.ref p)) := by
  have out : ∀ i, i ∉ l → (wipe σ own)[i]? = σ[i]? := fun i hi => wipe_out fun z => hi (h i z)
  refine ⟨⟨by rw [wipeE_length, wipe_length]; exact r.len, r.fin, fun i t e => ?_, fun i j t u p e1 e2 o1 o2 s1 s2 => ?_⟩, fun p hp => ?_⟩
  · obtain ⟨a, b⟩ := wipeE_some e
    rw [out i a]
    exact r.slot i t b
  · obtain ⟨a, b⟩ := wipeE_some e1
    obtain ⟨c, d⟩ := wipeE_some e2
    rw [out i a] at s1
    rw [out j c] at s2
    exact r.sep i j t u p b d o1 o2 s1 s2
  · obtain ⟨i, t, e, o, s⟩ := hp
    obtain ⟨a, b⟩ := wipeE_some e
    rw [out i a] at s
    exact ⟨i, t, a, b, o, s⟩
theorem Rel.live (r : Rel K cs F H env σ) {p : Addr} (o : Own env σ p) : H p ≠ none := by
  obtain ⟨i, t, e, ow, s⟩ := o
  obtain ⟨v, hv, rt⟩ := r.slot i t e
  rw [s] at hv; cases hv
  cases t with
  | d _ => cases ow
  | l ds =>
    obtain ⟨q, vs, e2, h, _⟩ := rt
    cases e2
    rw [h]; intro z; cases z
  | m _ => exact rt.elim
  | o _ _ => exact rt.elim
/-- behind a loop: the slots of l are as they were ahead of it -/
theorem back_state {Ow : Addr → Prop} (r0 : Rel K cs F1 H1 env0 σ0) (x : Ext F1 H1 Ow F H (Own env9 σ9)) (hOw : ∀ p, Ow p → ∃ (i : Nat) (t : T), i ∉ l ∧ env0[i]? = some (some t) ∧ t.own = true ∧ σ0[i]? = some (some (.ref p)))
    (r9 : Rel K cs F H env9 σ9) (hl : env0.length = env9.length) (hT : σT.length = σ9.length) (hT1 : ∀ i ∈ l, σT[i]? = σ0[i]?) (hT2 : ∀ i, i ∉ l → σT[i]? = σ9[i]?) :
    Rel K cs F H (backE env9 env0 l) σT ∧ Ext F1 H1 (Own env0 σ0) F H (Own (backE env9 env0 l) σT) := by
  have cls : ∀ (i : Nat) (t : T), (backE env9 env0 l)[i]? = some (some t) → (i ∈ l ∧ env0[i]? = some (some t) ∧ σT[i]? = σ0[i]?) ∨ (i ∉ l ∧ env9[i]? = some (some t) ∧ σT[i]? = σ9[i]?) := fun i t e => by
    by_cases hi : i ∈ l
    · left
      have hlt : i < env9.length := by
        have := (List.getElem?_eq_some_iff.mp e).1
        rw [backE_length] at this
        exact this
      rw [backE_in hi hlt] at e
      exact ⟨hi, getD_some (Option.some.inj e), hT1 i hi⟩
    · right
      rw [backE_out hi] at e
      exact ⟨hi, e, hT2 i hi⟩
  have ow0 : ∀ p, Ow p → Own env0 σ0 p := fun p h => by
    obtain ⟨i, t, _, e, o, s⟩ := hOw p h
    exact ⟨i, t, e, o, s⟩
  have notOw : ∀ (i : Nat) (t : T) (p : Addr), i ∈ l → env0[i]? = some (some t) → t.own = true → σ0[i]? = some (some (.ref p)) → ¬ Ow p := fun i t p hi e o s z => by
    obtain ⟨j, u, hj, e2, o2, s2⟩ := hOw p z
    have := r0.sep i j t u p e e2 o o2 s s2
    subst this
    exact hj hi
  have mixed : ∀ (i j : Nat) (t u : T) (p : Addr), i ∈ l → env0[i]? = some (some t) → t.own = true → σ0[i]? = some (some (.ref p)) → env9[j]? = some (some u) → u.own = true → σ9[j]? = some (some (.ref p)) → False := fun i j t u p hi e o s e2 o2 s2 => by
    rcases x.own p ⟨j, u, e2, o2, s2⟩ with z | z
    · exact notOw i t p hi e o s z
    · exact r0.live ⟨i, t, e, o, s⟩ z
  refine ⟨⟨by rw [backE_length, hT]; exact r9.len, r9.fin, fun i t e => ?_, fun i j t u p e1 e2 o1 o2 s1 s2 => ?_⟩, ⟨x.fr, fun p o e n => x.keep p o e fun z => n (ow0 p z), fun p a b => (x.new p a b).imp (ow0 p) id, fun p hp => ?_⟩⟩
  · rcases cls i t e with ⟨hi, a, b⟩ | ⟨hi, a, b⟩
    · obtain ⟨v, hv, rt⟩ := r0.slot i t a
      exact ⟨v, by rw [b]; exact hv, RepT.ext x rt fun o p ev => notOw i t p hi a o (by rw [hv, ev])⟩
    · rw [b]
      exact r9.slot i t a
  · rcases cls i t e1 with ⟨hi, a, b⟩ | ⟨hi, a, b⟩
    · rw [b] at s1
      rcases cls j u e2 with ⟨hj, c, d⟩ | ⟨hj, c, d⟩
      · rw [d] at s2
        exact r0.sep i j t u p a c o1 o2 s1 s2
      · rw [d] at s2
        exact (mixed i j t u p hi a o1 s1 c o2 s2).elim
    · rw [b] at s1
      rcases cls j u e2 with ⟨hj, c, d⟩ | ⟨hj, c, d⟩
      · rw [d] at s2
        exact (mixed j i u t p hj c o2 s2 a o1 s1).elim
      · rw [d] at s2
        exact r9.sep i j t u p a c o1 o2 s1 s2
  · obtain ⟨i, t, e, o, s⟩ := hp
    rcases cls i t e with ⟨hi, a, b⟩ | ⟨hi, a, b⟩
    · rw [b] at s
      exact .inl ⟨i, t, a, o, s⟩
    · rw [b] at s
      exact (x.own p ⟨i, t, a, o, s⟩).imp (ow0 p) id
/-- an object that nobody holds is changed -/
theorem Rel.poke {p : Addr} {o u : HO} (r : Rel K cs F H env σ) (hF : F p = none) (hO : ¬ Own env σ p) : Rel K cs F (upd H p u) env σ := by
  have np : ∀ q, F q ≠ none → q ≠ p := fun q h z => h (by rw [z]; exact hF)
  refine ⟨r.len, ⟨fun q w hq => ?_, fun q xs hq => ?_⟩, fun j t e => ?_, r.sep⟩
  · have qp : q ≠ p := np q (by rcases hq with z | ⟨o, z⟩ <;> (rw [z]; intro y; cases y))
    have := r.fin.1 q w hq
    unfold Rd at this ⊢
    rw [upd_ne qp]
    exact this
  · have qp : q ≠ p := np q (by rw [hq]; intro y; cases y)
    rw [upd_ne qp]
    exact r.fin.2 q xs hq
  · obtain ⟨v, hv, rt⟩ := r.slot j t e
    refine ⟨v, hv, ?_⟩
    cases t with
    | d d => exact rt
    | l es =>
      obtain ⟨q, ws, e2, g1, g2, g3⟩ := rt
      have qp : q ≠ p := fun z => hO ⟨j, .l es, e, rfl, by rw [hv, e2, z]⟩
      exact ⟨q, ws, e2, by rw [upd_ne qp]; exact g1, g2, g3⟩
    | m _ => exact rt.elim
    | o _ _ => exact rt.elim
end

theorem Fit.noexE {α : Type} {r : R α} {Wx : AM.X → AM.Env → Prop} {Kk : α → AM.Env → Prop} (h : Fit r.noex Wx Kk) : Fit r (fun _ _ => False) Kk := by
  cases r <;> exact h
theorem lcL_fit {b : D → AM.Env → R (Option D)} {Wx : AM.X → AM.Env → Prop} {Kk : List D → AM.Env → Prop} : ∀ (ds acc : List D) (env : AM.Env), Fit (lcL b ds acc env) Wx Kk → Fit (lcL b ds acc env) (fun _ _ => False) Kk
  | [], _, _, h => h
  | d :: ds, acc, env, h => by
    unfold lcL at h ⊢
    refine Fit.unbind ?_
    have h1 := h.bind
    cases e : (b d env) with
    | ok o env' =>
      rw [e] at h1
      have h1 : Fit (match o with
        | none => lcL b ds acc env'
        | some x => if acc.length < sizeLine then lcL b ds (acc ++ [x]) env' else .no) Wx Kk := h1
      show Fit (match o with
        | none => lcL b ds acc env'
        | some x => if acc.length < sizeLine then lcL b ds (acc ++ [x]) env' else .no) _ Kk
      cases o with
      | none => exact lcL_fit ds acc env' h1
      | some x =>
        by_cases hz : acc.length < sizeLine
        · simp only [if_pos hz] at h1 ⊢
          exact lcL_fit ds _ env' h1
        · simp only [if_neg hz] at h1
          exact h1.elim
    | ex x env' => rw [e] at h1; exact h1.elim
    | no => rw [e] at h1; exact h1.elim
theorem wipe_eq {σ σ2 : L2.St} {own : List Nat} (hl : σ2.length = σ.length) (h : ∀ j, j ∉ own → σ2[j]? = (wipe σ own)[j]?) : wipe σ2 own = wipe σ own := by
  refine List.ext_getElem? fun i => ?_
  by_cases hi : i ∈ own
  · have none : ∀ (τ : L2.St) (vs : List Nat), i ∈ vs → (wipe τ vs)[i]? = if i < τ.length then some Option.none else Option.none := by
      intro τ vs
      induction vs with
      | nil => intro z; cases z
      | cons v vs ih =>
        intro z
        unfold wipe
        by_cases e : i = v
        · subst e
          by_cases hlt : i < τ.length
          · rw [List.getElem?_set_self (by rw [wipe_length]; exact hlt), if_pos hlt]
          · rw [List.getElem?_eq_none (by rw [List.length_set, wipe_length]; omega), if_neg hlt]
        · rw [List.getElem?_set_ne (Ne.symm e)]
          exact ih (by rcases List.mem_cons.mp z with q | q; exact absurd q e; exact q)
    rw [none σ2 own hi, none σ own hi, hl]
  · rw [wipe_out hi, h i hi]

section
variable {P : Tx} {G : Ck} {k : Nat} {cs : Cst} {W : WX} {N : List Str} {sc : Scope} {X : Cx} {C : Cl}
abbrev noW : WX := fun _ _ _ _ => False
/-- a comprehension's test -/
def tOe (W : WX) (K : PySem.W.Frag) (cs : Cst) (C : Cl) (c : Oe) : TT := fun σ H Q => ∃ F env, Rel K cs F H env σ ∧ Fit (evO C c env) (WxOf W K cs F H env σ) (KbOf K cs F H env σ Q)
/-- one turn -/
def lcTurn (C : Cl) (own : List Nat) (p : Pt) (ifs : Oe) (e : E) (d : D) (env1 : AM.Env) : R (Option D) := match bindPt p d env1 with
  | none => .no
  | some env2 => (evO C ifs env2).bind fun k env3 => match k with
    | false => .ok none (wipeE env3 own)
    | true => (evE C e env3).bind fun t env4 => .ok (some t.snap) (wipeE env4 own)
theorem lc_ev (own : List (Str × Nat)) (p : Pt) (it : AM.It) (ifs : Oe) (e : E) (env : AM.Env) : evE C (.lc own p it ifs e) env = (evI C it env).bind fun ds env0 =>
    (lcL (lcTurn C (ownIx own) p ifs e) ds [] (wipeE env0 (ownIx own ++ it.lk))).bind fun out env9 => .ok (.l out) (backE env9 env0 (ownIx own ++ it.lk)) := by
  simp only [evE]
  rfl
theorem lc_read {K : PySem.W.Frag} {own : List (Str × Nat)} {p : Pt} {it : AM.It} {ifs : Oe} {e : E} {F H : Hp} {env : AM.Env} {σ : L2.St} {Q : VK} (hp : ∀ i ∈ p.slots, i ∈ ownIx own) (rel : Rel K cs F H env σ)
    (f : Fit (evE C (.lc own p it ifs e) env) (WxOf W K cs F H env σ) (KeOf K cs F H env σ Q)) : tLc (wI W K cs C it) (gPt K p) (tOe noW K cs C ifs) (tE noW K cs C e) (ownIx own) σ H Q := by
  rw [lc_ev] at f
  refine ⟨F, env, rel, f.bind.mono (fun _ _ z => z) fun ds env0 g F1 H1 J Cn Fp x1 r1 jo cn nfp => ?_⟩
  intro Dn hDn
  have g := lcL_fit ds [] _ g.bind
  obtain ⟨L, hL⟩ : ∃ L, L = ownIx own ++ it.lk := ⟨_, rfl⟩
  obtain ⟨O, hO⟩ : ∃ O, O = ownIx own := ⟨_, rfl⟩
  rw [← hL, ← hO] at g
  rw [← hO]
  have sub : ∀ i ∈ O, i ∈ L := fun i hi => by rw [hL]; exact List.mem_append_left _ (by rw [← hO]; exact hi)
  have subk : ∀ i ∈ it.lk, i ∈ L := fun i hi => by rw [hL]; exact List.mem_append_right _ hi
  obtain ⟨rw1, ow1⟩ := r1.wiped (own := O) (l := L) sub
  have nfp1 : ∀ q, Fp q → ¬ Own (wipeE env0 L) (L2.wipe σ O) q := fun q hq z => by
    obtain ⟨i, t, hi, e, o, s⟩ := ow1 q z
    exact nfp q hq ⟨i, t, by rw [wipeE_out fun z => hi (subk i z)]; exact e, o, s⟩
  let Wv : Nat → Nat → Hp → Prop := fun i m H' => m = ds.length - i ∧ i ≤ ds.length ∧ ∃ F' env' acc vs, Rel K cs F' H' env' (L2.wipe σ O) ∧ Ext F1 H1 (Own (wipeE env0 L) (L2.wipe σ O)) F' H' (Own env' (L2.wipe σ O)) ∧ Cn F' H' ∧
    H' Dn = some (.lst vs) ∧ F' Dn = none ∧ ¬ Own env' (L2.wipe σ O) Dn ∧ RepDs K cs F' acc vs ∧ env'.length = env0.length ∧
    Fit (lcL (lcTurn C O p ifs e) (ds.drop i) acc env') (fun _ _ => False) (fun out env9 => Fit (R.ok (T.l out) (backE env9 env0 L)) (WxOf W K cs F H env σ) (KeOf K cs F H env σ Q))
  have nofp : ∀ {F' H' : Hp} {env' : AM.Env}, Ext F1 H1 (Own (wipeE env0 L) (L2.wipe σ O)) F' H' (Own env' (L2.wipe σ O)) → ∀ q, Fp q → ¬ Own env' (L2.wipe σ O) q := fun x q hq z => by
    rcases x.own q z with y | y
    · exact nfp1 q hq y
    · exact jo.live F1 H1 q cn hq y
  have nDn : ∀ q, Fp q → q ≠ Dn := fun q hq z => by
    subst z
    exact jo.live F1 H1 _ cn hq hDn
  have pokeE : ∀ (F' H' : Hp) (u : HO), Ext F' H' (fun q => q = Dn) F' (upd H' Dn u) (fun q => q = Dn) := fun F' H' u => ⟨Sub.refl _, fun q o e n => by rw [upd_ne n]; exact e, fun q a b => absurd b a, fun q h => .inl h⟩
  have pokeX : ∀ {F' H' : Hp} {env' : AM.Env} (u : HO), Ext F1 H1 (Own (wipeE env0 L) (L2.wipe σ O)) F' H' (Own env' (L2.wipe σ O)) → Ext F1 H1 (Own (wipeE env0 L) (L2.wipe σ O)) F' (upd H' Dn u) (Own env' (L2.wipe σ O)) := fun {F' H' env'} u x =>
    ⟨x.fr, fun q o e n => by
      have qd : q ≠ Dn := fun z => by rw [z, hDn] at e; cases e
      rw [upd_ne qd]
      exact x.keep q o e n, x.new, x.own⟩
  refine ⟨Wv, ⟨ds.length, by simp, Nat.zero_le _, ?_⟩, ?_⟩
  · obtain ⟨r2, x2, f2, o2⟩ := rw1.newO (o := .lst []) hDn
    exact ⟨F1, wipeE env0 L, [], [], r2, x2, jo.keep _ _ _ _ _ _ cn x2 nfp1, upd_same, f2, o2, .nil, wipeE_length L, g⟩
  · rintro i m H' ⟨rfl, hi, F', env', acc, vs, r', x', cn', hd', fd', od', ra, le, g'⟩
    by_cases hlt : i < ds.length
    · right
      refine ⟨jo.go F' H' i cn' hlt, fun H'' => Wv (i + 1) (ds.length - (i + 1)) H'', fun H'' w => ⟨_, by omega, w⟩, fun x H2 y => ?_⟩
      have hdr : ds.drop i = ds[i] :: ds.drop (i + 1) := List.drop_eq_getElem_cons hlt
      rw [hdr] at g'
      unfold lcL at g'
      have g1 := g'.bind.noexE
      obtain ⟨F2, r2, x2, cn2, rd⟩ := jo.yld F' H' env' (L2.wipe σ O) i x H2 ds[i] cn' r' y (List.getElem?_eq_getElem hlt)
      have hd2 : H2 Dn = some (.lst vs) := x2.keep _ _ hd' od'
      have fd2 : F2 Dn = none := by
        cases z : F2 Dn with
        | none => rfl
        | some o =>
          rcases x2.new Dn (by rw [z]; intro q; cases q) fd' with q | q
          · exact absurd q od'
          · rw [hd'] at q; cases q
      unfold lcTurn at g1
      cases eb : bindPt p ds[i] env' with
      | none => rw [eb] at g1; exact g1.elim
      | some env2 =>
        rw [eb] at g1
        have g1 := Fit.bind g1
        refine bind_run p eb r2 rd fun σ2 r3 o3 s3 l3 => ?_
        have we : L2.wipe σ2 O = L2.wipe σ O := wipe_eq (by rw [l3, wipe_length]) fun j hj => s3 j fun z => hj (by rw [hO]; exact hp j z)
        have hb : Ext F1 H1 (Own (wipeE env0 L) (L2.wipe σ O)) F2 H2 (Own env2 σ2) := ⟨(x'.trans x2).fr, (x'.trans x2).keep, (x'.trans x2).new, fun q z => (x'.trans x2).own q (o3 q z)⟩
        have lb : env2.length = env'.length := by
          have a := r3.len
          have b := r2.len
          rw [a, b, l3]
        -- behind the turn
        have again : ∀ {F5 H5 : Hp} {env5 : AM.Env} {acc5 : List D} {vs5 : List V}, Ext F2 H2 (Own env2 σ2) F5 H5 (Own env5 σ2) → Rel K cs F5 H5 env5 σ2 → env5.length = env2.length → (∃ u, H5 Dn = some (.lst u)) → RepDs K cs F5 acc5 vs5 →
            Fit (lcL (lcTurn C O p ifs e) (ds.drop (i + 1)) acc5 (wipeE env5 O)) (fun _ _ => False) (fun out env9 => Fit (R.ok (T.l out) (backE env9 env0 L)) (WxOf W K cs F H env σ) (KeOf K cs F H env σ Q)) → Wv (i + 1) (ds.length - (i + 1)) (upd H5 Dn (.lst vs5)) := by
          intro F5 H5 env5 acc5 vs5 x5 r5 l5 ⟨u5, hd5⟩ ra5 g5
          obtain ⟨rw5, ow5⟩ := r5.wiped (own := O) (l := O) fun _ z => z
          rw [we] at rw5 ow5
          have xt := hb.trans x5
          have xw : Ext F1 H1 (Own (wipeE env0 L) (L2.wipe σ O)) F5 H5 (Own (wipeE env5 O) (L2.wipe σ O)) := ⟨xt.fr, xt.keep, xt.new, fun q z => xt.own q (by
            obtain ⟨j, t, _, e, o, s⟩ := ow5 q z
            exact ⟨j, t, e, o, s⟩)⟩
          have odn : ¬ Own env2 σ2 Dn := fun z => od' (o3 Dn z)
          have fd5 : F5 Dn = none := by
            cases z : F5 Dn with
            | none => rfl
            | some o =>
              rcases x5.new Dn (by rw [z]; intro q; cases q) fd2 with q | q
              · exact absurd q odn
              · rw [hd2] at q; cases q
          have od5 : ¬ Own (wipeE env5 O) (L2.wipe σ O) Dn := fun z => by
            obtain ⟨j, t, _, e, o, s⟩ := ow5 Dn z
            rcases x5.own Dn ⟨j, t, e, o, s⟩ with q | q
            · exact odn q
            · rw [hd2] at q; cases q
          have cn5 : Cn F5 H5 := jo.keep _ _ _ _ _ _ cn2 x5 fun q hq z => nofp x' q hq (o3 q z)
          have cn6 : Cn F5 (upd H5 Dn (.lst vs5)) := jo.keep _ _ _ _ _ _ cn5 (pokeE F5 H5 _) fun q hq z => nDn q hq z
          exact ⟨rfl, hlt, F5, wipeE env5 O, acc5, vs5, rw5.poke (o := .lst u5) fd5 od5, pokeX _ xw, cn6, upd_same, fd5, od5, ra5, by rw [wipeE_length, l5, lb, le], g5⟩
        refine ⟨we, F2, env2, r3, g1.mono (fun _ _ z => z.elim) fun b env3 g2 F3 H3 x3 r4 => ?_⟩
        have len3 : env3.length = env2.length := by rw [r4.len, r3.len]
        have hd3 : H3 Dn = some (.lst vs) := x3.keep _ _ hd2 fun z => od' (o3 Dn z)
        cases b with
        | false =>
          refine iteF ?_
          have w := again x3 r4 len3 ⟨_, hd3⟩ (ra.mono (x2.fr.trans x3.fr)) g2
          have id : upd H3 Dn (.lst vs) = H3 := by
            funext b
            by_cases hb : b = Dn
            · subst hb; rw [upd_same, hd3]
            · rw [upd_ne hb]
          rw [id] at w
          exact w
        | true =>
          refine iteT ⟨F3, env3, r4, (Fit.bind g2).mono (fun _ _ z => z.elim) fun t env4 g3 v F4 H4 po => ?_⟩
          obtain ⟨F5, p5, s5⟩ := po.kept
          have len4 : env4.length = env2.length := by rw [p5.rel.len, r3.len]
          have ext5 := x3.trans p5.ext
          have odn : ¬ Own env2 σ2 Dn := fun z => od' (o3 Dn z)
          have hd4 : H4 Dn = some (.lst vs) := ext5.keep _ _ hd2 odn
          have g3 : Fit (if acc.length < sizeLine then lcL (lcTurn C O p ifs e) (ds.drop (i + 1)) (acc ++ [t.snap]) (wipeE env4 O) else .no) (fun _ _ => False) _ := g3
          by_cases hz : acc.length < sizeLine
          · rw [if_pos hz] at g3
            refine ⟨vs, hd4, by rw [← ra.length]; exact hz, ?_⟩
            have ra5 : RepDs K cs F5 (acc ++ [t.snap]) (vs ++ [v]) := (ra.mono (x2.fr.trans ext5.fr)).append (.cons p5.rep .nil)
            exact again ext5 p5.rel len4 ⟨_, hd4⟩ ra5 g3
          · rw [if_neg hz] at g3
            exact g3.elim
    · left
      have e : i = ds.length := by omega
      subst e
      refine ⟨jo.stop F' H' _ cn' (Nat.le_refl _), ?_⟩
      rw [List.drop_length] at g'
      have g' : KeOf K cs F H env σ Q (.l acc) (backE env' env0 L) := g'
      obtain ⟨rb, xb⟩ := back_state (l := L) (σT := σ) r1 x' ow1 r' le.symm (by rw [wipe_length]) (fun _ _ => rfl) fun j hj => (wipe_out fun z => hj (sub j z)).symm
      have xx := x1.trans xb
      have nb : Own env σ Dn ∨ H Dn = none := by
        by_cases h1 : Own env σ Dn
        · exact .inl h1
        · right
          cases e : H Dn with
          | none => rfl
          | some u => have := x1.keep Dn u e h1; rw [hDn] at this; cases this
      refine g' (.ref Dn) F' H' ⟨xx, rb, ⟨Dn, vs, rfl, hd', fd', ra⟩, fun _ q eq => ?_⟩
      cases eq
      refine ⟨fun z => ?_, nb⟩
      obtain ⟨j, t, ej, oj, sj⟩ := z
      by_cases hj : j ∈ L
      · have hlt2 : j < env'.length := by
          have := (List.getElem?_eq_some_iff.mp ej).1
          rw [backE_length] at this
          exact this
        rw [backE_in hj hlt2] at ej
        exact r1.live ⟨j, t, getD_some (Option.some.inj ej), oj, sj⟩ hDn
      · rw [backE_out hj] at ej
        exact od' ⟨j, t, ej, oj, by rw [wipe_out fun z => hj (sub j z)]; exact sj⟩
end
end AM

set_option maxHeartbeats 8000000
/-! expressions: all together -/
namespace AM
open PySem PySem.Spec PyProof.Rows L2
section
variable {P : Tx} {G : Ck} {k : Nat} {cs : Cst}

theorem Good.blk {W : WX} {N : List Str} {sc : Scope} {X : Cx} (g : Good P G k cs W N sc X) (scope : Scope) (s : Shared) (H : Hp) (C : Addr) (cl : List (Str × Addr)) (fp : List Addr) : Good P G k cs noW N (relS scope sc) (X.blk s H scope (compEnvC scope cl C X.env) fp) where
  hN := g.hN
  hsc := by rw [← g.hsc]; rfl
  nd := g.nd
  calm := g.calm
  room := g.room
  takes := takes0
  pass := PassesOwn.never
  fns := g.fns
  free := g.free
  glob := g.glob
theorem locB_blk {W : WX} {N : List Str} {sc : Scope} {X : Cx} (g : Good P G k cs W N sc X) (scope : Scope) (s : Shared) (H : Hp) (C : Addr) (cl : List (Str × Addr)) (fp : List Addr) (x : Str) (h : locB scope x = true) :
    Loc (X.blk s H scope (compEnvC scope cl C X.env) fp).env.scope x ∧ ((X.blk s H scope (compEnvC scope cl C X.env) fp).fn x = true ∨ (X.blk s H scope (compEnvC scope cl C X.env) fp).env.scope.names.lookup x = some .local) := by
  have e : (X.blk s H scope (compEnvC scope cl C X.env) fp).env.scope = relS scope sc := (g.blk scope s H C cl fp).hsc
  rw [e]
  rcases locB_of h with h | h
  · have := lookup_relS_keep (sc := sc) (by decide) h
    exact ⟨.inl this, .inr this⟩
  · have := lookup_relS_keep (sc := sc) (by decide) h
    refine ⟨.inr this, .inl ?_⟩
    show (scope.names.lookup x == some .cell) = true
    rw [h]
    rfl

/-- what is shown of an expression -/
def SndE (P : Tx) (G : Ck) (k : Nat) (cs : Cst) (c : E) : Prop := ∀ (t : Bool) (N : List Str) (sc : Scope) (X : Cx) (W : WX) (e : Expr), Good P G k cs W N sc X → chkE G N sc t c e = true →
  (t = false → PE X e (tE W X.K cs (clOf P k) c)) ∧ (t = true → PT X e (tT W X.K cs (clOf P k) c)) ∧ (t = true → ∀ o xs pos, e = .BoolOp o xs pos → PW X e (tT W X.K cs (clOf P k) c))
def SndEs (P : Tx) (G : Ck) (k : Nat) (cs : Cst) (es : Es) : Prop := ∀ (N : List Str) (sc : Scope) (X : Cx) (W : WX) (xs : List Expr), Good P G k cs W N sc X → chkEs G N sc es xs = true → EsOk X W cs (clOf P k) es xs
def SndO (P : Tx) (G : Ck) (k : Nat) (cs : Cst) (o : Oe) : Prop := (∀ (N : List Str) (sc : Scope) (X : Cx) (W : WX) (xs : List Expr), Good P G k cs W N sc X → chkO G N sc o xs = true → PTs X xs (tOe W X.K cs (clOf P k) o)) ∧
  ∀ (N : List Str) (sc : Scope) (X : Cx) (W : WX) (y : Option Expr), Good P G k cs W N sc X → chkP G N sc o y = true → (o = .no ∧ y = none) ∨ ∃ c z, o = .yes c ∧ y = some z ∧ PE X z (tE W X.K cs (clOf P k) c)
def SndI (P : Tx) (G : Ck) (k : Nat) (cs : Cst) (it : AM.It) : Prop := ∀ (N : List Str) (sc : Scope) (X : Cx) (W : WX) (tg e : Expr), Good P G k cs W N sc X → chkI G N sc it e = true → tgtB it tg = true → PI X tg e (wI W X.K cs (clOf P k) it) ∧ ∀ env x, foldedSetIterable e env x = pure x

/-- value and test at once, of what is just a value -/
theorem val_both {X : Cx} {W : WX} {C : Cl} {c : E} {e : Expr} (t : Bool) (h : PE X e (tE W X.K cs C c)) (hp : plainT e = true) (hb : ∀ o xs pos, e ≠ .BoolOp o xs pos) :
    (t = false → PE X e (tE W X.K cs C c)) ∧ (t = true → PT X e (tT W X.K cs C c)) ∧ (t = true → ∀ o xs pos, e = .BoolOp o xs pos → PW X e (tT W X.K cs C c)) :=
  ⟨fun _ => h, fun _ => test_of h hp, fun _ o xs pos e => absurd e (hb o xs pos)⟩
theorem fold_pure {e : Expr} (h : isSet e = false) (env : PySem.Env) (x : Value) : foldedSetIterable e env x = pure x := by
  cases e <;> first | rfl | (cases h; done)
/-- an operand -/
theorem opd_pe {W : WX} {N : List Str} {sc : Scope} {X : Cx} (g : Good P G k cs W N sc X) {c : E} {e : Expr} (h : chkE G N sc false c e = true) (ih : SndE P G k cs c) : PE X e (tO W X.K cs (clOf P k) c) := by
  unfold tO
  cases hs : slotOf c with
  | some i =>
    have := slotOf_some hs
    subst this
    cases e <;> first | (simp [chkE] at h; done) | skip
    unfold chkE at h
    exact pe_name g h
  | none => exact (ih false N sc X W e g h).1 rfl
theorem opd_run {K : PySem.W.Frag} {C : Cl} {c : E} {F H : Hp} {env : AM.Env} {σ : L2.St} {W : WX} {Kk : D → AM.Env → Prop} {Q : VK} (r : Rel K cs F H env σ) (f : Fit (opd (slotOf c) (evE C c) env) (WxOf W K cs F H env σ) Kk)
    (h : ∀ d env' v F' H', Ext F H (Own env σ) F' H' (Own env' σ) → Rel K cs F' H' env' σ → RepV K cs F' H' d v → (∀ p, v = .ref p → (∃ i t, slotOf c = some i ∧ env'[i]? = some (some t) ∧ σ[i]? = some (some v) ∧ RepT K cs F' H' t v ∧ t.snap = d) ∨ RepD K cs F' d v) → Kk d env' → Q v H') : tO W K cs C c σ H Q := by
  unfold tO
  unfold opd at f
  cases hs : slotOf c with
  | some i =>
    rw [hs] at f
    simp only at f
    split at f
    · rename_i t ht
      obtain ⟨v, hv, rt⟩ := r.get ht
      exact ⟨v, hv, h _ env v F H (Ext.refl _ _ _) r rt.snap (fun p e => .inl ⟨i, t, hs, getD_some ht, hv, rt, rfl⟩) f⟩
    · exact f.elim
  | none =>
    rw [hs] at f
    simp only at f
    refine ⟨F, env, r, f.bind.mono (fun _ _ z => z) fun t env' q v F' H' p => ?_⟩
    obtain ⟨F2, p2, s⟩ := p.kept
    exact h _ env' v F2 H' p2.ext p2.rel (.fz p2.rep) (fun p e => .inr p2.rep) q
/-- what stays is nobody's own -/
theorem notOwnD {K : PySem.W.Frag} {F H : Hp} {env : AM.Env} {σ : L2.St} {p : Addr} (r : Rel K cs F H env σ) (h : F p ≠ none) : ¬ Own env σ p := by
  rintro ⟨i, t, e, ow, s⟩
  obtain ⟨v, hv, rt⟩ := r.slot i t e
  rw [s] at hv; cases hv
  cases t with
  | d _ => cases ow
  | l ds =>
    obtain ⟨q, vs, e2, h1, h2, _⟩ := rt
    cases e2
    exact h h2
  | m _ => exact rt.elim
  | o _ _ => exact rt.elim

/-- where an operand stands: a locked slot's own, or kept -/
def Stood (K : PySem.W.Frag) (cs : Cst) (F : Hp) (env : AM.Env) (σ : L2.St) (l : List Nat) (d : D) (v : V) : Prop := (∃ (i : Nat) (t : T), i ∈ l ∧ env[i]? = some (some t) ∧ t.own = true ∧ σ[i]? = some (some v)) ∨ RepD K cs F d v
theorem stood_l {K : PySem.W.Frag} {F H : Hp} {env : AM.Env} {σ : L2.St} {l : List Nat} {ds : List D} {v : V} (r : Rel K cs F H env σ) (rv : RepV K cs F H (.lst ds) v) (h : Stood K cs F env σ l (.lst ds) v) :
    ∃ p vs b, v = .ref p ∧ KpL K H b p vs ∧ RepDs K cs F ds vs ∧ (b = false → ¬ Own (wipeE env l) σ p) := by
  rcases h with ⟨i, t, hi, e, ht, s⟩ | h
  · obtain ⟨v', hv, rt⟩ := r.slot i t e
    rw [s] at hv; cases hv
    cases t with
    | d _ => cases ht
    | l es =>
      obtain ⟨p, vs, rfl, h1, h2, h3⟩ := rt
      cases rv with
      | fz q =>
        cases q with
        | lst q q2 =>
          rcases q with q | q
          · exact absurd h2 (rd_live q)
          · exact ⟨p, _, true, rfl, q, q2, fun z => by cases z⟩
      | ol q q2 =>
        refine ⟨p, _, false, rfl, .inl q, q2, fun _ => ?_⟩
        rintro ⟨j, u, e2, ow, s2⟩
        obtain ⟨a, b⟩ := wipeE_some e2
        exact a ((r.sep i j _ u p e b ht ow s s2) ▸ hi)
    | m _ => exact rt.elim
    | o _ _ => exact rt.elim
  · cases h with
    | @lst p vs _ q q2 =>
      rcases q with q | q
      · refine ⟨p, vs, false, rfl, r.fin.1 _ _ q, q2, fun _ => ?_⟩
        rintro ⟨j, u, e2, ow, s2⟩
        obtain ⟨a, b⟩ := wipeE_some e2
        exact notOwnD r (rd_live q) ⟨j, u, b, ow, s2⟩
      · exact ⟨p, vs, true, rfl, q, q2, fun z => by cases z⟩
theorem stood_t {K : PySem.W.Frag} {F H : Hp} {env : AM.Env} {σ : L2.St} {l : List Nat} {ds : List D} {v : V} (r : Rel K cs F H env σ) (rv : RepV K cs F H (.tup ds) v) :
    ∃ p vs b, v = .ref p ∧ KpT K H b p vs ∧ RepDs K cs F ds vs ∧ (b = false → ¬ Own (wipeE env l) σ p) := by
  cases rv with
  | fz h =>
    cases h with
    | @tup p vs _ q q2 =>
      rcases q with q | q
      · refine ⟨p, vs, false, rfl, r.fin.1 _ _ q, q2, fun _ => ?_⟩
        rintro ⟨j, u, e2, ow, s2⟩
        obtain ⟨a, b⟩ := wipeE_some e2
        exact notOwnD r (rd_live q) ⟨j, u, b, ow, s2⟩
      · exact ⟨p, vs, true, rfl, q, q2, fun z => by cases z⟩
theorem opd_stood {K : PySem.W.Frag} {F H : Hp} {env : AM.Env} {σ : L2.St} {c : E} {d : D} {v : V} (h : (∃ i t, slotOf c = some i ∧ env[i]? = some (some t) ∧ σ[i]? = some (some v) ∧ RepT K cs F H t v ∧ t.snap = d) ∨ RepD K cs F d v) : Stood K cs F env σ (slotOf c).toList d v := by
  rcases h with ⟨i, t, hs, e, s, rt, rfl⟩ | h
  · cases ho : t.own with
    | true => exact .inl ⟨i, t, by rw [hs]; simp, e, ho, s⟩
    | false =>
      cases t with
      | d d => exact .inr rt
      | _ => cases ho
  · exact .inr h
/-- the operands with where they stand -/
theorem ops_stood {K : PySem.W.Frag} {C : Cl} {W : WX} {σ : L2.St} : ∀ (es : Es) {F H : Hp} {env : AM.Env} {Kk : List D → AM.Env → Prop}, Rel K cs F H env σ → Fit (evEs C es env) (WxOf W K cs F H env σ) Kk →
    tOs W K cs C es σ H fun xs H2 => ∃ F2 ds env2, Ext F H (Own env σ) F2 H2 (Own env2 σ) ∧ Rel K cs F2 H2 env2 σ ∧ RepVs K cs F2 H2 ds xs ∧ (∀ (n : Nat) d v, ds[n]? = some d → xs[n]? = some v → Stood K cs F2 env2 σ es.lk d v) ∧ Kk ds env2
  | .nil, F, H, env, Kk, r, f => ⟨F, [], env, Ext.refl _ _ _, r, .nil, fun n d v e => by simp at e, f⟩
  | .cons e es, F, H, env, Kk, r, f => by
    unfold evEs at f
    cases hs : slotOf e with
    | some i =>
      rw [hs] at f
      simp only at f
      show tO W K cs C e σ H _
      unfold tO
      rw [hs]
      split at f
      · rename_i t0 h0
        obtain ⟨v, hv, _⟩ := r.get h0
        refine ⟨v, hv, tOs.mono (ops_stood es r f.bind) fun xs H2 ⟨F2, ds, env2, x, r2, rs, st, k⟩ => ?_⟩
        split at k
        · rename_i t ht
          obtain ⟨w, hw, rt⟩ := r2.get ht
          rw [hv] at hw; cases hw
          refine ⟨F2, _, env2, x, r2, .cons rt.snap rs, fun n d w h1 h2 => ?_, k⟩
          have lk : (Es.cons e es).lk = i :: es.lk := by rw [Es.lk, hs]
          rw [lk]
          cases n with
          | zero =>
            have h1 : t.snap = d := by simpa using h1
            have h2 : v = w := by simpa using h2
            subst h1 h2
            cases ho : t.own with
            | true => exact .inl ⟨i, t, by simp, getD_some ht, ho, hv⟩
            | false =>
              cases t with
              | d d => exact .inr rt
              | _ => cases ho
          | succ n =>
            rcases st n d w (by simpa using h1) (by simpa using h2) with ⟨j, t, a, b, c, e⟩ | z
            · exact .inl ⟨j, t, List.mem_cons_of_mem _ a, b, c, e⟩
            · exact .inr z
        · exact k.elim
      · exact f.elim
    | none =>
      rw [hs] at f
      simp only at f
      show tO W K cs C e σ H _
      unfold tO
      rw [hs]
      refine ⟨F, env, r, f.bind.mono (fun _ _ z => z) fun t env1 g v F1 H1 p => ?_⟩
      obtain ⟨F2, p2, s⟩ := p.kept
      refine tOs.mono (ops_stood es p2.rel (g.bind.mono (fun _ _ z => WxOf.move p2.ext z) fun _ _ z => z)) fun xs H2 ⟨F3, ds, env2, x, r2, rs, st, k⟩ => ?_
      refine ⟨F3, _, env2, p2.ext.trans x, r2, .cons (.fz (RepD.mono x.fr p2.rep)) rs, fun n d w h1 h2 => ?_, k⟩
      have lk : (Es.cons e es).lk = es.lk := by rw [Es.lk, hs]
      rw [lk]
      cases n with
      | zero =>
        have h1 : t.snap = d := by simpa using h1
        have h2 : v = w := by simpa using h2
        subst h1 h2
        exact .inr (RepD.mono x.fr p2.rep)
      | succ n => exact st n d w (by simpa using h1) (by simpa using h2)

theorem no_ref_l {K : PySem.W.Frag} {F H : Hp} {ds : List D} {v : V} (rv : RepV K cs F H (.lst ds) v) (n : ∀ p, v ≠ .ref p := by intro _ z; cases z) : False := by
  cases rv with
  | fz h => cases h; exact n _ rfl
  | ol _ _ => exact n _ rfl
/-! ### walks -/
theorem seq_pi {W : WX} {X : Cx} {C : Cl} {e : E} {tg x : Expr} (h : PE X x (tO W X.K cs C e)) : PI X tg x (wI W X.K cs C (.seq e)) := by
  refine PI.imp (pi_seq h) fun σ H R ⟨F, env, r, f⟩ => ?_
  unfold evI at f
  refine opd_run r f.bind fun d env' v F' H' x r' rv st q => ?_
  have st := fun p e => opd_stood (H := H') (st p e)
  cases d with
  | lst ds =>
    cases v with
    | ref p0 =>
      obtain ⟨p, vs, b, e, hr, rd, no⟩ := stood_l r' rv (st p0 rfl)
      exact ⟨p, e, .inl ⟨⟨vs, hr.at.sq⟩, q F' H' _ _ _ x r' (itl_ok (K := X.K) (b := b) (a := p)) ⟨vs, hr, rd⟩ fun a ha => by rw [ha.2]; exact no ha.1⟩⟩
    | _ => exact (no_ref_l rv).elim
  | tup ds =>
    obtain ⟨p, vs, b, e, hr, rd, no⟩ := stood_t (l := (slotOf e).toList) r' rv
    exact ⟨p, e, .inr ⟨⟨vs, hr.at⟩, q F' H' _ _ _ x r' (itt_ok (K := X.K) (b := b) (a := p)) ⟨vs, hr, rd⟩ fun a ha => by rw [ha.2]; exact no ha.1⟩⟩
  | _ => exact q.elim
theorem rng_pi {W : WX} {N : List Str} {sc : Scope} {X : Cx} {C : Cl} (g : Good P G k cs W N sc X) {es : Es} {tg : Expr} {as : List Expr} {p pos : Pos} (hg : glB sc "range" = true) (hf : ("range" : Str) ∈ G.fr) (hl : (as.length == 1 || as.length == 2) = true) (h : EsOk X W cs C es as) :
    PI X tg (.Call (.Name "range" p) as [] pos) (wI W X.K cs C (.rng es)) := by
  obtain ⟨h1, _, _⟩ := glB_of hg
  have hm := g.free _ hf
  cases h with
  | nil => simp at hl
  | @cons e1 es a as h1' s1 r =>
    cases r with
    | nil =>
      refine PI.imp (pi_range1 (g.gl h1) hm (EsOk.pa (EsOk.cons h1' s1 .nil)) (s1 _ _)) fun σ H R ⟨F, env, r, f⟩ => ?_
      unfold evI at f
      refine tO.mono (ops_run _ r f.bind) fun v1 H2 ⟨F2, ds, env2, x, r2, rs, q⟩ => ?_
      unfold rngF at q
      split at q
      · rename_i ys e
        split at e
        · rename_i j
          split at e
          · rename_i c
            cases e
            cases rs with
            | cons rv rs =>
              cases rs
              cases rv.int
              have it : ItOk X.K cs (Itr 0 j.toNat) ((List.range j.toNat).map fun (n : Nat) => D.int n) (fun _ _ => True) (fun _ => False) := by
                have := itr_ok (K := X.K) (cs := cs) (lo := 0) (n := j.toNat)
                simpa using this
              exact ⟨j, rfl, c.1, c.2, q F2 H2 _ _ _ x r2 it trivial fun _ e => False.elim e⟩
          · cases e
        · rename_i i j
          cases rs with
          | cons _ rs => cases rs
        · cases e
      · exact q.elim
    | @cons e2 es2 b bs h2' s2 r =>
      cases r with
      | nil =>
        refine PI.imp (pi_range2 (g.gl h1) hm (EsOk.pa (EsOk.cons h1' s1 (.cons h2' s2 .nil))) (by rw [s1, s2]; rfl) (s2 _ _)) fun σ H R ⟨F, env, r, f⟩ => ?_
        unfold evI at f
        refine tO.mono (ops_run _ r f.bind) fun v1 H1 z => tO.mono z fun v2 H2 ⟨F2, ds, env2, x, r2, rs, q⟩ => ?_
        unfold rngF at q
        split at q
        · rename_i ys e
          split at e
          · rename_i j
            cases rs with
            | cons _ rs => cases rs
          · rename_i i j
            split at e
            · rename_i c
              cases e
              cases rs with
              | cons rv rs =>
                cases rs with
                | cons rw rs =>
                  cases rs
                  cases rv.int
                  cases rw.int
                  exact ⟨i, j, rfl, c, q F2 H2 _ _ _ x r2 itr_ok trivial fun _ e => False.elim e⟩
            · cases e
          · cases e
        · exact q.elim
      | cons _ _ _ => simp at hl
theorem enum_pi {W : WX} {N : List Str} {sc : Scope} {X : Cx} {C : Cl} (g : Good P G k cs W N sc X) {e : E} {a : Expr} {elts : List Expr} {kk : Nat} {tpos p pos : Pos} (hg : glB sc "enumerate" = true) (hf : ("enumerate" : Str) ∈ G.fr) (h : PE X a (tO W X.K cs C e))
    (s : ∀ (ys : List Expr) (env : PySem.Env), starEach (a :: ys) env = (false, eval a env) :: starEach ys env) : PI X (.Tuple elts kk tpos) (.Call (.Name "enumerate" p) [a] [] pos) (wI W X.K cs C (.enum e)) := by
  obtain ⟨h1, _, _⟩ := glB_of hg
  have hm := g.free _ hf
  refine PI.imp (pi_enum (g.gl h1) hm (EsOk.pa (EsOk.cons h s .nil)) (s _ _)) fun σ H R ⟨F, env, r, f⟩ => ?_
  unfold evI at f
  refine opd_run r f.bind fun d env' v F' H' x r' rv st q => ?_
  have st := fun p e => opd_stood (H := H') (st p e)
  cases d with
  | lst ds =>
    cases v with
    | ref p0 =>
      obtain ⟨p, vs, b, e, hr, rd, no⟩ := stood_l r' rv (st p0 rfl)
      exact ⟨p, vs, by rw [e], hr.at.sq, q F' H' _ _ _ x r' (ite_ok (K := X.K) (b := b) (a := p)) ⟨vs, hr, rd⟩ fun a ha => by rw [ha.2]; exact no ha.1⟩
    | _ => exact (no_ref_l rv).elim
  | _ => exact q.elim
theorem zip_pi {W : WX} {N : List Str} {sc : Scope} {X : Cx} {C : Cl} (g : Good P G k cs W N sc X) {es : Es} {a b : Expr} {elts : List Expr} {kk : Nat} {tpos p pos : Pos} (hg : glB sc "zip" = true) (hf : ("zip" : Str) ∈ G.fr) (h : EsOk X W cs C es [a, b]) :
    PI X (.Tuple elts kk tpos) (.Call (.Name "zip" p) [a, b] [] pos) (wI W X.K cs C (.zip es)) := by
  obtain ⟨h1, _, _⟩ := glB_of hg
  have hm := g.free _ hf
  have hs : starEach [a, b] X.env = (false, eval a X.env) :: starEach [b] X.env := by cases h with | cons _ s _ => exact s _ _
  have hp : (backTo pos (starEach [b] X.env)).any (·.1) = false := by cases h with | cons _ _ r => exact r.plain
  refine PI.imp (RZ.pi_zipA (g.gl h1) hm h.pa hs hp) fun σ H R ⟨F, env, r, f⟩ => ?_
  unfold evI at f
  refine tOs.mono (ops_stood _ r f.bind) fun xs H2 ⟨F2, ds, env2, x, r2, rs, st, q⟩ => ?_
  split at q
  · rename_i ds es'
    cases rs with
    | cons rv rs =>
      cases rs with
      | cons rw rs =>
        cases rs
        obtain ⟨p1, vs, b1, rfl, hr, rd, no1⟩ := stood_l r2 rv (st 0 _ _ rfl rfl)
        obtain ⟨p2, ws, b2, rfl, hr2, rd2, no2⟩ := stood_l r2 rw (st 1 _ _ rfl rfl)
        refine ⟨p1, p2, vs, ws, rfl, .inl ⟨hr.at.sq, hr2.at.sq, q F2 H2 _ _ _ x r2 itz_ok ⟨⟨vs, hr, rd⟩, ws, hr2, rd2⟩ fun a ha => ?_⟩⟩
        rcases ha with ⟨z, rfl⟩ | ⟨z, rfl⟩
        · exact no1 z
        · exact no2 z
  · rename_i ds es'
    cases rs with
    | cons rv rs =>
      cases rs with
      | cons rw rs =>
        cases rs
        obtain ⟨p1, vs, b1, rfl, hr, rd, no1⟩ := stood_t (l := es.lk) r2 rv
        obtain ⟨p2, ws, b2, rfl, hr2, rd2, no2⟩ := stood_t (l := es.lk) r2 rw
        refine ⟨p1, p2, vs, ws, rfl, .inr ⟨hr.at, hr2.at, q F2 H2 _ _ _ x r2 itzt_ok ⟨⟨vs, hr, rd⟩, ws, hr2, rd2⟩ fun a ha => ?_⟩⟩
        rcases ha with ⟨z, rfl⟩ | ⟨z, rfl⟩
        · exact no1 z
        · exact no2 z
  · exact q.elim
/-- no answer -/
theorem no_pe {X : Cx} {e : Expr} {t : TE} (h : ∀ σ H Q, ¬ t σ H Q) : PE X e t := ⟨fun _ _ _ _ _ _ z => (h _ _ _ z).elim⟩
theorem no_pt {X : Cx} {e : Expr} {t : TT} (h : ∀ σ H Q, ¬ t σ H Q) : PT X e t := ⟨fun _ _ _ _ _ _ z => (h _ _ _ z).elim⟩
end
end AM

set_option maxHeartbeats 8000000
/-! expressions: the whole -/
namespace AM
open PySem PySem.Spec PyProof.Rows L2
section
variable {P : Tx} {G : Ck} {k : Nat} {cs : Cst}

theorem lc_pe {W : WX} {N : List Str} {sc : Scope} {X : Cx} (g : Good P G k cs W N sc X) {own : List (Str × Nat)} {p : Pt} {it : AM.It} {ifs : Oe} {e : E} {elt tg iter : Expr} {ifs' : List Expr} {scope : Scope} {pos : Pos}
    (hb : blkC N sc scope own = true) (hp : chkPt N scope p tg = true) (hs : ∀ i ∈ p.slots, i ∈ own.map (·.2)) (hi : PI X tg iter (wI W X.K cs (clOf P k) it)) (hf : ∀ env x, foldedSetIterable iter env x = pure x)
    (ho : ∀ X', Good P G k cs noW N (relS scope sc) X' → PTs X' ifs' (tOe noW X'.K cs (clOf P k) ifs)) (he : ∀ X', Good P G k cs noW N (relS scope sc) X' → PE X' elt (tE noW X'.K cs (clOf P k) e)) :
    PE X (.ListComp elt [⟨tg, iter, ifs', 0⟩] scope pos) (tE W X.K cs (clOf P k) (.lc own p it ifs e)) := by
  refine PE.imp (pe_lc (wi := wI W X.K cs (clOf P k) it) (g := gPt X.K p) (tt := tOe noW X.K cs (clOf P k) ifs) (te := tE noW X.K cs (clOf P k) e) (own := own) g.calm (by rw [g.hN]; exact g.nd) hi (by rw [g.hN, g.hsc]; exact blkOk_by hb)
    (fun s H C cl fp => ?_) (fun s H C cl fp => ho _ (g.blk scope s H C cl fp)) (fun s H C cl fp => he _ (g.blk scope s H C cl fp)) (hf X.env)) fun σ H Q ⟨F, env, r, f⟩ => lc_read hs r f
  exact pt_pg (X := X.blk s H scope (compEnvC scope cl C X.env) fp) g.hN g.nd g.calm (locB_blk g scope s H C cl fp) p tg hp

theorem tru_no {W : WX} {X : Cx} {C : Cl} {i : Nat} {e : Expr} : PE X e (tE W X.K cs C (.vw i)) := no_pe fun σ H Q ⟨F, env, r, f⟩ => by
  unfold evE at f
  exact f
theorem tru_noT {W : WX} {X : Cx} {C : Cl} {i : Nat} {e : Expr} : PT X e (tT W X.K cs C (.vw i)) := no_pt fun σ H Q ⟨F, env, r, f⟩ => by
  unfold evE at f
  exact f
theorem pts_no {W : WX} {X : Cx} {C : Cl} : PTs X [] (tOe W X.K cs C .no) := ⟨fun pins s σ H Q I ⟨F, env, r, f⟩ => by
  unfold evO at f
  exact pts_nil.run pins s σ H Q I (f F H (Ext.refl _ _ _) r)⟩
theorem pts_yes {W : WX} {X : Cx} {C : Cl} {c : E} {x : Expr} (h : PT X x (tT W X.K cs C c)) : PTs X [x] (tOe W X.K cs C (.yes c)) := ⟨fun pins s σ H Q I ⟨F, env, r, f⟩ => by
  unfold evO at f
  exact (pts_one h).run pins s σ H Q I ⟨F, env, r, f⟩⟩
mutual
theorem snd_E : ∀ c : E, SndE P G k cs c
  | .cst d => fun t N sc X W e g h => by
    cases e <;> first | (simp [chkE] at h; done) | skip
    simp only [chkE] at h
    exact val_both t (cst_pe h) rfl fun _ _ _ => Expr.noConfusion
  | .var i => fun t N sc X W e g h => by
    cases e <;> first | (simp [chkE] at h; done) | skip
    simp only [chkE] at h
    exact val_both t (var_pe g h) rfl fun _ _ _ => Expr.noConfusion
  | .vw i => fun t N sc X W e g h => by
    cases e <;> first | (simp [chkE] at h; done) | skip
    exact val_both t tru_no rfl fun _ _ _ => Expr.noConfusion
  | .glob x => fun t N sc X W e g h => by
    cases e <;> first | (simp [chkE] at h; done) | skip
    simp only [chkE, Bool.and_eq_true, decide_eq_true_eq] at h
    obtain ⟨⟨rfl, h2⟩, h3⟩ := h
    exact val_both t (glob_pe g h2 h3) rfl fun _ _ _ => Expr.noConfusion
  | .prim p es => fun t N sc X W e g h => by
    have ih : SndEs P G k cs es := snd_Es es
    unfold chkE at h
    split at h
    all_goals try (cases ‹E.prim p es = _›)
    all_goals first | (cases h; done) | skip
    · simp only [Bool.and_eq_true] at h
      obtain ⟨h1, h2⟩ := h
      split at h1 <;> first | (cases h1; done) | skip
      have := of_decide_eq_true h1
      subst this
      exact val_both t (bin_pe g (ih N sc X W _ g h2)) rfl fun _ _ _ => Expr.noConfusion
    · simp only [Bool.and_eq_true] at h
      obtain ⟨h1, h2⟩ := h
      split at h1 <;> first | (cases h1; done) | skip
      exact val_both t (neg_pe g (ih N sc X W _ g h2)) rfl fun _ _ _ => Expr.noConfusion
    · simp only [Bool.and_eq_true, Bool.not_eq_true'] at h
      obtain ⟨⟨h1, hs⟩, h2⟩ := h
      split at h1 <;> first | (cases h1; done) | skip
      have := of_decide_eq_true h1
      subst this
      exact ⟨fun _ => cmp_pe g hs (ih N sc X W _ g h2), fun _ => cmp_pt g hs (ih N sc X W _ g h2), fun _ _ _ _ e => Expr.noConfusion e⟩
    · simp only [Bool.and_eq_true, Bool.not_eq_true'] at h
      obtain ⟨⟨h1, hs⟩, h2⟩ := h
      split at h1 <;> first | (cases h1; done) | skip
      exact val_both t (ix_pe g hs (ih N sc X W _ g h2)) rfl fun _ _ _ => Expr.noConfusion
    · simp only [Bool.and_eq_true, decide_eq_true_eq] at h
      obtain ⟨⟨⟨h1, hg⟩, hf⟩, h2⟩ := h
      split at h1 <;> first | (cases h1; done) | skip
      exact val_both t (bi_pe g (of_decide_eq_true h1) hg hf (ih N sc X W _ g h2)) rfl fun _ _ _ => Expr.noConfusion
    · simp only [Bool.and_eq_true] at h
      obtain ⟨⟨h1, hs⟩, h2⟩ := h
      split at h1 <;> first | (cases h1; done) | skip
      exact val_both t (tup_pe hs (ih N sc X W _ g h2)) rfl fun _ _ _ => Expr.noConfusion
    · simp only [Bool.and_eq_true] at h
      obtain ⟨⟨h1, hs⟩, h2⟩ := h
      split at h1 <;> first | (cases h1; done) | skip
      exact val_both t (lst_pe hs (ih N sc X W _ g h2)) rfl fun _ _ _ => Expr.noConfusion
    · simp only [Bool.and_eq_true] at h
      obtain ⟨h1, h2⟩ := h
      split at h1 <;> first | (cases h1; done) | skip
      split at h2 <;> first | (cases h2; done) | skip
      exact val_both t dic_pe rfl fun _ _ _ => Expr.noConfusion
  | .sl x lo hi => fun t N sc X W e0 g h => by
    have ix := snd_E x
    have il' : SndO P G k cs lo := snd_O lo
    have il := il'.2
    have ihh' : SndO P G k cs hi := snd_O hi
    have ihh := ihh'.2
    unfold chkE at h
    split at h
    all_goals try (cases ‹(E.sl x lo hi : E) = _›)
    all_goals first | (cases h; done) | skip
    simp only [Bool.and_eq_true] at h
    obtain ⟨⟨h1, h2⟩, h3⟩ := h
    exact val_both t (sl_pe g (opd_pe g h1 ix) (il N sc X W _ g h2) (ihh N sc X W _ g h3)) rfl fun _ _ _ => Expr.noConfusion
  | .and a b => fun t N sc X W e0 g h => by
    have ia := snd_E a
    have ib := snd_E b
    unfold chkE at h
    split at h
    all_goals try (cases ‹(E.and a b : E) = _›)
    all_goals first | (cases h; done) | skip
    simp only [Bool.and_eq_true] at h
    obtain ⟨h1, h2⟩ := h
    have pw : t = true → PW X _ (tT W X.K cs (clOf P k) (.and a b)) := fun z => and_pw ((ia t N sc X W _ g h1).2.1 z) ((ib t N sc X W _ g h2).2.2 z _ _ _ rfl)
    exact ⟨fun z => and_pe ((ia t N sc X W _ g h1).1 z) ((ib t N sc X W _ g h2).1 z), fun z => (pw z).pt, fun z _ _ _ e => by cases e; exact pw z⟩
  | .or a b => fun t N sc X W e0 g h => by
    have ia := snd_E a
    have ib := snd_E b
    unfold chkE at h
    split at h
    all_goals try (cases ‹(E.or a b : E) = _›)
    all_goals first | (cases h; done) | skip
    simp only [Bool.and_eq_true] at h
    obtain ⟨h1, h2⟩ := h
    have pw : t = true → PW X _ (tT W X.K cs (clOf P k) (.or a b)) := fun z => or_pw ((ia t N sc X W _ g h1).2.1 z) ((ib t N sc X W _ g h2).2.2 z _ _ _ rfl)
    exact ⟨fun z => or_pe ((ia t N sc X W _ g h1).1 z) ((ib t N sc X W _ g h2).1 z), fun z => (pw z).pt, fun z _ _ _ e => by cases e; exact pw z⟩
  | .not a => fun t N sc X W e0 g h => by
    have ia := snd_E a
    unfold chkE at h
    split at h
    all_goals try (cases ‹(E.not a : E) = _›)
    all_goals first | (cases h; done) | skip
    exact ⟨fun z => not_pe ((ia t N sc X W _ g h).1 z), fun z => not_pt ((ia t N sc X W _ g h).2.1 z), fun _ _ _ _ e => Expr.noConfusion e⟩
  | .ife c a b => fun t N sc X W e0 g h => by
    have ic := snd_E c
    have ia := snd_E a
    have ib := snd_E b
    unfold chkE at h
    split at h
    all_goals try (cases ‹(E.ife c a b : E) = _›)
    all_goals first | (cases h; done) | skip
    simp only [Bool.and_eq_true, Bool.not_eq_true'] at h
    obtain ⟨⟨⟨h0, h1⟩, h2⟩, h3⟩ := h
    have nt : t = true → False := fun z => by rw [h0] at z; cases z
    exact ⟨fun _ => ife_pe ((ic true N sc X W _ g h1).2.1 rfl) ((ia false N sc X W _ g h2).1 rfl) ((ib false N sc X W _ g h3).1 rfl), fun z => (nt z).elim, fun z => (nt z).elim⟩
  | .one a => fun t N sc X W e0 g h => by
    have ia := snd_E a
    unfold chkE at h
    split at h
    all_goals try (cases ‹(E.one a : E) = _›)
    all_goals first | (cases h; done) | skip
    exact ⟨fun z => one_pe ((ia t N sc X W _ g h).1 z), fun z => (one_pw ((ia t N sc X W _ g h).2.1 z)).pt, fun z _ _ _ e => one_pw ((ia t N sc X W _ g h).2.1 z)⟩
  | .tru a => fun t N sc X W e0 g h => by
    have ia := snd_E a
    unfold chkE at h
    simp only [Bool.and_eq_true] at h
    obtain ⟨⟨h0, h1⟩, h2⟩ := h
    subst h0
    exact ⟨fun z => Bool.noConfusion z, fun _ => tru_pt g (opd_pe g h2 ia) h1, fun _ _ _ _ e => by subst e; cases h1⟩
  | .chain o1 o2 a b c => fun t N sc X W e0 g h => by
    have ia := snd_E a
    have ib := snd_E b
    have ic := snd_E c
    unfold chkE at h
    split at h
    all_goals try (cases ‹(E.chain o1 o2 a b c : E) = _›)
    all_goals first | (cases h; done) | skip
    simp only [Bool.and_eq_true, decide_eq_true_eq, Bool.not_eq_true'] at h
    obtain ⟨⟨⟨⟨⟨⟨h1, h2⟩, h3⟩, h4⟩, h5⟩, h6⟩, h7⟩ := h
    subst h1 h2
    have pa := (ia false N sc X W _ g h5).1 rfl
    have pb := (ib false N sc X W _ g h6).1 rfl
    have pc := (ic false N sc X W _ g h7).1 rfl
    exact ⟨fun _ => chain_pe g h3 h4 pa pb pc, fun _ => chain_pt g h3 h4 pa pb pc, fun _ _ _ _ e => Expr.noConfusion e⟩
  | .call f es => fun t N sc X W e0 g h => by
    have ih : SndEs P G k cs es := snd_Es es
    unfold chkE at h
    split at h
    all_goals try (cases ‹(E.call f es : E) = _›)
    all_goals first | (cases h; done) | skip
    simp only [Bool.and_eq_true, decide_eq_true_eq] at h
    obtain ⟨⟨h1, h2⟩, h3⟩ := h
    exact val_both t (call_pe g h1 h2 (ih N sc X W _ g h3)) rfl fun _ _ _ => Expr.noConfusion
  | .lc own p it ifs e => fun t N sc X W e0 g h => by
    have ie := snd_E e
    have io' : SndO P G k cs ifs := snd_O ifs
    have io := io'.1
    have ii : SndI P G k cs it := snd_I it
    unfold chkE at h
    split at h
    all_goals try (cases ‹(E.lc own p it ifs e : E) = _›)
    all_goals first | (cases h; done) | skip
    simp only [Bool.and_eq_true, decide_eq_true_eq] at h
    obtain ⟨⟨⟨⟨⟨⟨h1, h2⟩, h3⟩, h4⟩, h5⟩, h6⟩, h7⟩ := h
    obtain ⟨pi, pf⟩ := ii N sc X W _ _ g h5 h3
    exact val_both t (lc_pe g h1 h2 h4 pi pf (fun X' g' => io N _ X' _ _ g' h6) fun X' g' => (ie false N _ X' _ _ g' h7).1 rfl) rfl fun _ _ _ => Expr.noConfusion
  | .pop i es => fun t N sc X W e0 g h => by
    have ih : SndEs P G k cs es := snd_Es es
    unfold chkE at h
    split at h
    all_goals try (cases ‹(E.pop i es : E) = _›)
    all_goals first | (cases h; done) | skip
    simp only [Bool.and_eq_true, decide_eq_true_eq] at h
    obtain ⟨⟨⟨⟨h1, h2⟩, h3⟩, h4⟩, h5⟩ := h
    subst h2
    exact val_both t (pop_pe g h1 (ih N sc X W _ g h5) h3 h4) rfl fun _ _ _ => Expr.noConfusion
theorem snd_Es : ∀ es : Es, SndEs P G k cs es
  | .nil => fun N sc X W xs g h => by
    cases xs <;> first | (simp [chkEs] at h; done) | skip
    exact .nil
  | .cons e es => fun N sc X W xs g h => by
    cases xs <;> first | (simp [chkEs] at h; done) | skip
    simp only [chkEs, Bool.and_eq_true] at h
    exact .cons (opd_pe g h.1 (snd_E e)) (notStar h.1) (snd_Es es N sc X W _ g h.2)
theorem snd_O : ∀ o : Oe, SndO P G k cs o
  | .no => ⟨fun N sc X W xs g h => by
      cases xs <;> first | (simp [chkO] at h; done) | skip
      exact pts_no, fun N sc X W y g h => by
      cases y <;> first | (simp [chkP] at h; done) | skip
      exact .inl ⟨rfl, rfl⟩⟩
  | .yes c => ⟨fun N sc X W xs g h => by
      have ic := snd_E c
      match xs, h with
      | [x], h =>
        simp only [chkO] at h
        exact pts_yes ((ic true N sc X W _ g h).2.1 rfl), fun N sc X W y g h => by
      have ic := snd_E c
      match y, h with
      | some y, h =>
        simp only [chkP] at h
        exact .inr ⟨c, _, rfl, rfl, (ic false N sc X W _ g h).1 rfl⟩⟩
theorem snd_I : ∀ it : AM.It, SndI P G k cs it
  | .seq e => fun N sc X W tg x g h ht => by
    have ie := snd_E e
    unfold chkI at h
    simp only [Bool.and_eq_true, Bool.not_eq_true'] at h
    exact ⟨seq_pi (opd_pe g h.2 ie), fold_pure h.1⟩
  | .rng es => fun N sc X W tg x g h ht => by
    have ih : SndEs P G k cs es := snd_Es es
    unfold chkI at h
    split at h <;> try (cases ‹(AM.It.rng es) = _›)
    · simp only [Bool.and_eq_true, decide_eq_true_eq] at h
      obtain ⟨⟨⟨⟨h1, h2⟩, h3⟩, h4⟩, h5⟩ := h
      subst h1
      exact ⟨rng_pi g h2 h3 h4 (ih N sc X W _ g h5), fun _ _ => rfl⟩
    · cases h
  | .enum e => fun N sc X W tg x g h ht => by
    have ie := snd_E e
    unfold chkI at h
    split at h <;> try (cases ‹(AM.It.enum e) = _›)
    · simp only [Bool.and_eq_true, decide_eq_true_eq] at h
      obtain ⟨⟨⟨h1, h2⟩, h3⟩, h5⟩ := h
      subst h1
      cases tg <;> first | (cases ht; done) | skip
      exact ⟨enum_pi g h2 h3 (opd_pe g h5 ie) (notStar h5), fun _ _ => rfl⟩
    · cases h
  | .zip es => fun N sc X W tg x g h ht => by
    have ih : SndEs P G k cs es := snd_Es es
    unfold chkI at h
    split at h <;> try (cases ‹(AM.It.zip es) = _›)
    · simp only [Bool.and_eq_true, decide_eq_true_eq] at h
      obtain ⟨⟨⟨h1, h2⟩, h3⟩, h5⟩ := h
      subst h1
      cases tg <;> first | (cases ht; done) | skip
      exact ⟨zip_pi g h2 h3 (ih N sc X W _ g h5), fun _ _ => rfl⟩
    · cases h
end
end
end AM

set_option maxHeartbeats 8000000
/-! statements: readings and moves -/
namespace AM
open PySem PySem.Spec PyProof.Rows L2
section
variable {K : PySem.W.Frag} {cs : Cst} {C : Cl} {W : WX} {F H F1 H1 F' H' : Hp} {env env1 env' : AM.Env} {σ σ1 σ' : L2.St} {l l' : List Nat}

/-- slots outside l are as they were -/
def Same (l : List Nat) (σ σ' : L2.St) : Prop := σ'.length = σ.length ∧ ∀ j, j ∉ l → σ'[j]? = σ[j]?
theorem Same.refl (l : List Nat) (σ : L2.St) : Same l σ σ := ⟨rfl, fun _ _ => rfl⟩
theorem Same.trans (a : Same l σ σ1) (b : Same l σ1 σ') : Same l σ σ' := ⟨b.1.trans a.1, fun j h => (b.2 j h).trans (a.2 j h)⟩
theorem Same.mono (a : Same l σ σ') (h : ∀ i ∈ l, i ∈ l') : Same l' σ σ' := ⟨a.1, fun j hj => a.2 j fun z => hj (h j z)⟩
/-- from one state to a later one -/
structure Mv (K : PySem.W.Frag) (cs : Cst) (F H : Hp) (env : AM.Env) (σ : L2.St) (l : List Nat) (F' H' : Hp) (env' : AM.Env) (σ' : L2.St) : Prop where
  ext : Ext F H (Own env σ) F' H' (Own env' σ')
  rel : Rel K cs F' H' env' σ'
  same : Same l σ σ'
theorem Mv.refl (r : Rel K cs F H env σ) : Mv K cs F H env σ l F H env σ := ⟨Ext.refl _ _ _, r, Same.refl _ _⟩
theorem Mv.trans (a : Mv K cs F H env σ l F1 H1 env1 σ1) (b : Mv K cs F1 H1 env1 σ1 l F' H' env' σ') : Mv K cs F H env σ l F' H' env' σ' := ⟨a.ext.trans b.ext, b.rel, a.same.trans b.same⟩
theorem Mv.one (x : Ext F H (Own env σ) F' H' (Own env' σ)) (r : Rel K cs F' H' env' σ) : Mv K cs F H env σ l F' H' env' σ := ⟨x, r, Same.refl _ _⟩
theorem Mv.mono (a : Mv K cs F H env σ l F' H' env' σ') (h : ∀ i ∈ l, i ∈ l') : Mv K cs F H env σ l' F' H' env' σ' := ⟨a.ext, a.rel, a.same.mono h⟩

def Fresh (F H : Hp) (env : AM.Env) (σ : L2.St) (env' : AM.Env) (σ' : L2.St) (t : T) (v : V) : Prop := t.own = true → ∀ p, v = .ref p → ¬ Own env' σ' p ∧ (Own env σ p ∨ H p = none)
theorem Ext.back {O O1 : Addr → Prop} (a : Ext F H O F1 H1 O1) {p : Addr} (h : O1 p ∨ H1 p = none) : O p ∨ H p = none := by
  rcases h with q | q
  · exact a.own p q
  · by_cases h1 : O p
    · exact .inl h1
    · right
      cases e : H p with
      | none => rfl
      | some u => rw [a.keep p u e h1] at q; cases q
theorem Fresh.back (a : Ext F H (Own env σ) F1 H1 (Own env1 σ1)) {t : T} {v : V} (h : Fresh F1 H1 env1 σ1 env' σ' t v) : Fresh F H env σ env' σ' t v := fun o p e => ⟨(h o p e).1, a.back (h o p e).2⟩

def WxS (W : WX) (K : PySem.W.Frag) (cs : Cst) (F H : Hp) (env : AM.Env) (σ : L2.St) (l : List Nat) : AM.X → AM.Env → Prop := fun x env' => ∀ cl d σ' F' H', Mv K cs F H env σ l F' H' env' σ' → RepX K cs F' H' x cl d → W cl d σ' H'
def KsOf (K : PySem.W.Frag) (cs : Cst) (F H : Hp) (env : AM.Env) (σ : L2.St) (l : List Nat) (D : Ends) : Fl → AM.Env → Prop := fun f env' => match f with
  | .nx => ∀ σ' F' H', Mv K cs F H env σ l F' H' env' σ' → D.nx σ' H'
  | .bk => ∀ σ' F' H', Mv K cs F H env σ l F' H' env' σ' → D.bk σ' H'
  | .ct => ∀ σ' F' H', Mv K cs F H env σ l F' H' env' σ' → D.ct σ' H'
  | .rt t => ∀ v σ' F' H', Mv K cs F H env σ l F' H' env' σ' → RepT K cs F' H' t v → Fresh F H env σ env' σ' t v → D.rt v H'
theorem WxS.move (m : Mv K cs F H env σ l F1 H1 env1 σ1) {x : AM.X} {e : AM.Env} (h : WxS W K cs F H env σ l x e) : WxS W K cs F1 H1 env1 σ1 l x e := fun cl d σ' F' H' m2 r => h cl d σ' F' H' (m.trans m2) r
theorem KsOf.move (m : Mv K cs F H env σ l F1 H1 env1 σ1) {D : Ends} {f : Fl} {e : AM.Env} (h : KsOf K cs F H env σ l D f e) : KsOf K cs F1 H1 env1 σ1 l D f e := by
  cases f with
  | nx => exact fun σ' F' H' m2 => h σ' F' H' (m.trans m2)
  | bk => exact fun σ' F' H' m2 => h σ' F' H' (m.trans m2)
  | ct => exact fun σ' F' H' m2 => h σ' F' H' (m.trans m2)
  | rt t => exact fun v σ' F' H' m2 r q => h v σ' F' H' (m.trans m2) r (q.back m.ext)
theorem WxS.at (m : Mv K cs F H env σ l F1 H1 env1 σ1) {x : AM.X} {e : AM.Env} (h : WxS W K cs F H env σ l x e) : WxOf W K cs F1 H1 env1 σ1 x e := fun cl d F' H' x2 r2 q => h cl d σ1 F' H' (m.trans (Mv.one x2 r2)) q
/-- what the rest is to reach -/
abbrev Fs (W : WX) (K : PySem.W.Frag) (cs : Cst) (l : List Nat) (D : Ends) (r : R Fl) (F H : Hp) (env : AM.Env) (σ : L2.St) : Prop := Fit r (WxS W K cs F H env σ l) (KsOf K cs F H env σ l D)
theorem Fs.move {D : Ends} {r : R Fl} (m : Mv K cs F H env σ l F1 H1 env1 σ1) (h : Fs W K cs l D r F H env σ) : Fs W K cs l D r F1 H1 env1 σ1 := Fit.mono h (fun _ _ z => z.move m) fun _ _ z => z.move m

/-- the readings -/
def tS (W : WX) (K : PySem.W.Frag) (cs : Cst) (C : Cl) (isa : Nat → Nat → Bool) (l : List Nat) (s : S) : TS := fun D σ H => ∃ F env, Rel K cs F H env σ ∧ Fs W K cs l D (evS C isa s env) F H env σ
def tSs (W : WX) (K : PySem.W.Frag) (cs : Cst) (C : Cl) (isa : Nat → Nat → Bool) (l : List Nat) (ss : Ss) : TS := fun D σ H => ∃ F env, Rel K cs F H env σ ∧ Fs W K cs l D (evSs C isa ss env) F H env σ

/-- a step of a statement: behind an expression -/
theorem sstep {c : E} {D : Ends} {g : T → AM.Env → R Fl} {Q : VK} (r : Rel K cs F H env σ) (f : Fs W K cs l D ((evE C c env).bind g) F H env σ)
    (h : ∀ t env' v F' H', Post K cs F H env σ F' H' env' t v → Fs W K cs l D (g t env') F H env σ → Q v H') : tE W K cs C c σ H Q :=
  ⟨F, env, r, f.bind.mono (fun _ _ z => z.at (Mv.refl r)) fun t env' z v F' H' p => h t env' v F' H' p z⟩
theorem sstepT {c : E} {D : Ends} {g : Bool → AM.Env → R Fl} {Q : Bool → Hp → Prop} (r : Rel K cs F H env σ) (f : Fs W K cs l D (((evE C c env).bl).bind g) F H env σ)
    (h : ∀ b env' F' H', Mv K cs F H env σ l F' H' env' σ → Fs W K cs l D (g b env') F H env σ → Q b H') : tT W K cs C c σ H Q :=
  ⟨F, env, r, f.bind.mono (fun _ _ z => z.at (Mv.refl r)) fun b env' z F' H' x r' => h b env' F' H' (Mv.one x r') z⟩

/-- a slot is stored anew -/
theorem Rel.setT {i : Nat} {t : T} {v : V} (r : Rel K cs F H env σ) (hi : i < env.length) (h : RepT K cs F H t v) (n : t.own = true → ∀ p, v = .ref p → ¬ Own env σ p) :
    Rel K cs F H (env.set i (some t)) (σ.set i (some v)) ∧ ∀ p, Own (env.set i (some t)) (σ.set i (some v)) p → Own env σ p ∨ (t.own = true ∧ v = .ref p) := by
  have hiσ : i < σ.length := by rw [← r.len]; exact hi
  have cls : ∀ (j : Nat) (u : T) (w : V), (env.set i (some t))[j]? = some (some u) → (σ.set i (some v))[j]? = some (some w) → (j = i ∧ u = t ∧ w = v) ∨ (j ≠ i ∧ env[j]? = some (some u) ∧ σ[j]? = some (some w)) := fun j u w e e2 => by
    by_cases hj : j = i
    · subst hj
      rw [List.getElem?_set_self hi] at e
      rw [List.getElem?_set_self hiσ] at e2
      cases e; cases e2
      exact .inl ⟨rfl, rfl, rfl⟩
    · rw [List.getElem?_set_ne (Ne.symm hj)] at e e2
      exact .inr ⟨hj, e, e2⟩
  refine ⟨⟨by rw [List.length_set, List.length_set]; exact r.len, r.fin, fun j u e => ?_, fun a b u w p e1 e2 o1 o2 s1 s2 => ?_⟩, fun p hp => ?_⟩
  · by_cases hj : j = i
    · subst hj
      rw [List.getElem?_set_self hi] at e
      cases e
      exact ⟨v, List.getElem?_set_self hiσ, h⟩
    · rw [List.getElem?_set_ne (Ne.symm hj)] at e ⊢
      exact r.slot j u e
  · rcases cls a u _ e1 s1 with ⟨rfl, rfl, z⟩ | ⟨n1, f1, g1⟩
    · rcases cls b w _ e2 s2 with ⟨rfl, _, _⟩ | ⟨n2, f2, g2⟩
      · rfl
      · exact (n o1 p z.symm ⟨b, w, f2, o2, g2⟩).elim
    · rcases cls b w _ e2 s2 with ⟨rfl, rfl, z⟩ | ⟨n2, f2, g2⟩
      · exact (n o2 p z.symm ⟨a, u, f1, o1, g1⟩).elim
      · exact r.sep a b u w p f1 f2 o1 o2 g1 g2
  · obtain ⟨j, u, e, o, s⟩ := hp
    rcases cls j u _ e s with ⟨rfl, rfl, z⟩ | ⟨_, f1, g1⟩
    · exact .inr ⟨o, z.symm⟩
    · exact .inl ⟨j, u, f1, o, g1⟩
theorem Same.set {i : Nat} {v : Option V} (h : i ∈ l) : Same l σ (σ.set i v) := ⟨List.length_set .., fun j hj => List.getElem?_set_ne fun z => hj (by rw [← z]; exact h)⟩
/-- .. behind an expression -/
theorem Post.store {i : Nat} {t : T} {v : V} (p : Post K cs F H env σ F' H' env' t v) (hi : i < env'.length) (hl : i ∈ l) : Mv K cs F H env σ l F' H' (env'.set i (some t)) (σ.set i (some v)) := by
  obtain ⟨r2, o⟩ := p.rel.setT hi p.rep fun ow q e => (p.fresh ow q e).1
  refine ⟨⟨p.ext.fr, p.ext.keep, p.ext.new, fun q z => ?_⟩, r2, Same.set hl⟩
  rcases o q z with y | ⟨ow, e⟩
  · exact p.ext.own q y
  · exact (p.fresh ow q e).2
theorem Fs.step {D : Ends} {r : R Fl} (m : Mv K cs F H env σ l F1 H1 env1 σ1) (h : Fs W K cs l D r F H env σ) : ∃ F env, Rel K cs F H1 env σ1 ∧ Fs W K cs l D r F H1 env σ1 := ⟨F1, env1, m.rel, h.move m⟩
/-- a slot is given up -/
theorem Rel.drop {i : Nat} {t : T} {v : V} (r : Rel K cs F H env σ) (he : env[i]? = some (some t)) (hs : σ[i]? = some (some v)) : Rel K cs F H (env.set i none) σ ∧ (∀ p, Own (env.set i none) σ p → Own env σ p) ∧ (t.own = true → ∀ p, v = .ref p → ¬ Own (env.set i none) σ p ∧ Own env σ p) := by
  have hi : i < env.length := (List.getElem?_eq_some_iff.mp he).1
  have back : ∀ (j : Nat) (u : T), (env.set i none)[j]? = some (some u) → j ≠ i ∧ env[j]? = some (some u) := fun j u e => by
    by_cases hj : j = i
    · subst hj
      rw [List.getElem?_set_self hi] at e
      cases e
    · rw [List.getElem?_set_ne (Ne.symm hj)] at e
      exact ⟨hj, e⟩
  refine ⟨⟨by rw [List.length_set]; exact r.len, r.fin, fun j u e => r.slot j u (back j u e).2, fun a b u w p e1 e2 o1 o2 s1 s2 => r.sep a b u w p (back a u e1).2 (back b w e2).2 o1 o2 s1 s2⟩, fun p ⟨j, u, e, o, s⟩ => ⟨j, u, (back j u e).2, o, s⟩, fun ow p e => ⟨fun ⟨j, u, e1, o, s⟩ => ?_, ⟨i, t, he, ow, by rw [hs, e]⟩⟩⟩
  obtain ⟨n, f⟩ := back j u e1
  exact n (r.sep j i u t p f he o ow s (by rw [hs, e]))
/-- .. or kept from now on -/
theorem Rel.freeze {i : Nat} {t : T} (r : Rel K cs F H env σ) (he : env[i]? = some (some t)) : ∃ F', Mv K cs F H env σ l F' H (env.set i (some (.d t.snap))) σ := by
  obtain ⟨v, hv, rt⟩ := r.slot i t he
  obtain ⟨rd, ob, fr⟩ := r.drop he hv
  have hi : i < env.length := (List.getElem?_eq_some_iff.mp he).1
  have p : Post K cs F H env σ F H (env.set i none) t v := ⟨⟨Sub.refl F, fun _ _ h _ => h, fun _ a b => absurd b a, fun q z => .inl (ob q z)⟩, rd, rt, fun o q e => ⟨(fr o q e).1, .inl (fr o q e).2⟩⟩
  obtain ⟨F2, p2, s⟩ := p.kept
  have hi2 : i < (env.set i none).length := by rw [List.length_set]; exact hi
  have m := p2.store (l := [i]) hi2 List.mem_cons_self
  have e1 : (env.set i none).set i (some (T.d t.snap)) = env.set i (some (.d t.snap)) := List.set_set ..
  have hσ : σ.set i (some v) = σ := by
    refine List.ext_getElem? fun j => ?_
    by_cases hj : j = i
    · subst hj
      rw [List.getElem?_set_self (by rw [← r.len]; exact hi), hv]
    · rw [List.getElem?_set_ne (Ne.symm hj)]
  rw [e1, hσ] at m
  exact ⟨F2, m.ext, m.rel, Same.refl _ _⟩
end
end AM

set_option maxHeartbeats 8000000
/-! statements: the core text against the row's own -/
namespace AM
open PySem PySem.Spec PyProof.Rows L2

def isComp : Expr → Bool
  | .ListComp _ _ _ _ => true
  | .SetComp _ _ _ _ => true
  | .DictComp _ _ _ _ _ => true
  | _ => false
/-- a list comprehension on the name's own line -/
def lcSw (sc : Scope) (y : Str) (py : Pos) (scope : Scope) (pos : Pos) : Bool :=
  decide (sc.names.lookup y = some .local) && (py.line == pos.line) && !(scope.names.any fun (n, k) => n == y && (k == .local || k == .cell))
def setV : Expr → Bool
  | .SetComp _ _ _ _ => false
  | .DictComp _ _ _ _ _ => false
  | _ => true
def isFrz : S → Bool
  | .frz _ => true
  | _ => false
/-- the small suites behind except -/
def chkSu1 (N : List Str) (sc : Scope) : S → Stmt → Bool
  | .set i (.cst d), .Assign [.Name x _] (.Constant c _ _) _ => decide (N[i]? = some x) && decide (sc.names.lookup x = some .local) && cstB d c
  | .ret (.cst d), .Return (some (.Constant c _ _)) _ => cstB d c
  | .retN, .Return none _ => true
  | .pass, .Pass _ => true
  | .cnt, .Continue _ => true
  | .brk, .Break _ => true
  | _, _ => false
def chkSu (N : List Str) (sc : Scope) : Ss → List Stmt → Bool
  | .nil, [] => true
  | .cons s ss, st :: sts => chkSu1 N sc s st && chkSu N sc ss sts
  | _, _ => false
/-- two names at once -/
def parB (sc : Scope) (x y : Str) (px py : Pos) (a b : Expr) : Bool :=
  decide (sc.names.lookup x = some .local) && decide (sc.names.lookup y = some .local) && (py.line == px.line) && !(x == y) && !(y == x) &&
    !([a, b].all (foldedForSure 8)) && !([a, b].all (constantsAlone 8)) && !([a, b].any fun | .Starred .. => true | _ => false)
def kindF (sc : Scope) : Bool := match sc.kind with
  | .function => true
  | _ => false
mutual
def chkS (G : Ck) (N : List Str) (sc : Scope) : S → Stmt → Bool
  | .set i e, .Assign [.Name x px] v _ => decide (N[i]? = some x) && locB sc x && chkE G N sc false e v && setV v
  | .unp p e, .Assign [tg] v _ => isTup tg && chkPt N sc p tg && !isComp v && !isTup v && (slotOf e).isNone && chkE G N sc false e v
  | .par i j a b, .Assign [.Tuple [.Name x px, .Name y py] _ _] (.Tuple [a', b'] _ _) _ => decide (N[i]? = some x) && decide (N[j]? = some y) && !(i == j) && parB sc x y px py a' b' && chkE G N sc false a a' && chkE G N sc false b b'
  | .setIx i k v, .Assign [.Subscript (.Name x _) k' _] v' _ => nameB N sc i x && !isSlice k' && !isComp v' && chkE G N sc false k k' && chkE G N sc false v v'
  | .aug i o e, .AugAssign (.Name x _) o' e' _ => decide (N[i]? = some x) && locB sc x && decide (o = o') && (match o with | .Add => true | .Sub => true | _ => false) && chkE G N sc false e e'
  | .exp e, .Expr e' _ => !isComp e' && chkE G N sc false e e'
  | .app i e, .Expr (.Call (.Attribute (.Name x _) m apos) [a] [] cpos) _ => nameB N sc i x && decide (m = Str.ofString "append") && (apos.endLine == cpos.line) && (slotOf e).isNone && chkE G N sc false e a
  | .ife c a b, .If c' a' b' _ => chkE G N sc true c c' && chkSs G N sc a a' && chkSs G N sc b b'
  | .fo p it b, .For tg iter body [] _ => chkPt N sc p tg && tgtB it tg && chkI G N sc it iter && chkSs G N sc b body
  | .wh c b, .While c' body [] _ => chkE G N sc true c c' && chkSs G N sc b body
  | .ret e, .Return (some e') _ => chkE G N sc false e e'
  | .mov i, .Return (some (.Name x _)) _ => nameB N sc i x
  | .retN, .Return none _ => true
  | .brk, .Break _ => true
  | .cnt, .Continue _ => true
  | .pass, .Pass _ => true
  | .rais c .nil, .Raise (some (.Call (.Name x _) [] [] _)) none _ => decide (G.xc[c]? = some x) && decide (c ∈ G.xp) && glB sc x
  | .tr b hs, .Try body hds [] [] _ => !hds.isEmpty && chkSs G N sc b body && chkHs G N sc hs hds
  | _, _ => false
def chkSs (G : Ck) (N : List Str) (sc : Scope) : Ss → List Stmt → Bool
  | .nil, sts => sts.isEmpty
  | .cons s ss, sts => match isFrz s with
    | true => chkSs G N sc ss sts
    | false => match sts with
      | st :: r => chkS G N sc s st && chkSs G N sc ss r
      | [] => false
def chkHs (G : Ck) (N : List Str) (sc : Scope) : Hs → List ExceptHandler → Bool
  | .nil, hds => hds.isEmpty
  | .cons c o b hs, hds => match o, hds with
    | none, .ExceptHandler (some (.Name x _)) none (b0 :: suite) _ :: r => decide (G.xc[c]? = some x) && glB sc x && chkSu N sc b (b0 :: suite) && chkHs G N sc hs r
    | _, _ => false
end

/-- the surroundings of a def's statements -/
structure GoodS (P : Tx) (G : Ck) (k : Nat) (cs : Cst) (W : WX) (N : List Str) (sc : Scope) (X : Cx) : Prop extends Good P G k cs W N sc X where
  knd : sc.kind = .function
  stk : X.stack = X.env :: X.outer
  frm : X.env.frame = some X.env.locals
  fnl : ∀ x, locB sc x = true → X.fn x = true ∨ sc.names.lookup x = some .local
  cls : ∀ (c : Nat) (x : Str), G.xc[c]? = some x → ∃ a, cs c = some a ∧ X.mg x = some (.ref a)
  mkx : ∀ (c : Nat) (x : Str) (a : Addr), G.xc[c]? = some x → c ∈ G.xp → cs c = some a → PySem.W.keepIn X.K (.ref a) = true ∧ Raises X (.ref a) ∧ ∃ bmB B newId initId, ExcBaseFacts B newId initId bmB ∧ PySem.W.excIn X.K a bmB newId = true
  exm : ∀ (c c2 : Nat) (a a2 : Addr) (x2 : Str), cs c = some a → G.xc[c2]? = some x2 → cs c2 = some a2 → PySem.W.exmOne X.K (.ref a) (.ref a2) = some (P.isa c c2)
section
variable {P : Tx} {G : Ck} {k : Nat} {cs : Cst} {W : WX} {N : List Str} {sc : Scope} {X : Cx} {l : List Nat}
abbrev tSP (P : Tx) (k : Nat) (W : WX) (K : PySem.W.Frag) (cs : Cst) (l : List Nat) (s : S) : TS := tS W K cs (clOf P k) P.isa l s
abbrev tSPs (P : Tx) (k : Nat) (W : WX) (K : PySem.W.Frag) (cs : Cst) (l : List Nat) (s : Ss) : TS := tSs W K cs (clOf P k) P.isa l s
theorem PS.imp {st : Stmt} {t t' : TS} (h : PS X st t) (q : ∀ D σ H, t' D σ H → t D σ H) : PS X st t' := ⟨fun pins s σ H D I w => h.run pins s σ H D I (q D σ H w)⟩
theorem PSs.imp {st : List Stmt} {t t' : TS} (h : PSs X st t) (q : ∀ D σ H, t' D σ H → t D σ H) : PSs X st t' := ⟨fun pins s σ H D I w => h.run pins s σ H D I (q D σ H w)⟩
theorem sw_false {v : Expr} {o : Option Expr} {n : Nat} {env : PySem.Env} (h : isComp v = false) : swapsWith v o n env = pure false := by
  cases v <;> first | rfl | (cases h; done)
theorem lname (g : Good P G k cs W N sc X) {i : Nat} {x : Str} (h1 : N[i]? = some x) (h2 : locB sc x = true) : X.N.Nodup ∧ X.N[i]? = some x ∧ Loc X.env.scope x := ⟨by rw [g.hN]; exact g.nd, by rw [g.hN]; exact h1, by rw [g.hsc]; exact locB_of h2⟩

/-! ### stores -/
theorem set_read {K : PySem.W.Frag} {C : Cl} {isa : Nat → Nat → Bool} {i : Nat} {e : E} {D : Ends} {F H : Hp} {env : AM.Env} {σ : L2.St} (hl : i ∈ l) (r : Rel K cs F H env σ) (f : Fs W K cs l D (evS C isa (.set i e) env) F H env σ) : tAsg (tE W K cs C e) (gName i) D σ H := by
  unfold evS at f
  refine sstep r f fun t env' v F' H' p g => ?_
  unfold setS at g
  by_cases hi : i < env'.length
  · rw [if_pos hi] at g
    exact g _ _ _ (p.store hi hl)
  · rw [if_neg hi] at g
    exact g.elim
theorem set_ps (g : GoodS P G k cs W N sc X) {i : Nat} {e : E} {x : Str} {px pos : Pos} {v : Expr} (h1 : N[i]? = some x) (h2 : locB sc x = true) (hfn : X.fn x = true ∨ X.env.scope.names.lookup x = some .local) (he : PE X v (tE W X.K cs (clOf P k) e)) (hs : swapsWith v (some (.Name x px)) pos.line X.env = pure false) (hl : i ∈ l) :
    PS X (.Assign [.Name x px] v pos) (tSP P k W X.K cs l (.set i e)) := by
  obtain ⟨n1, n2, n3⟩ := lname g.toGood h1 h2
  exact PS.imp (ps_set n1 n2 n3 he hs hfn) fun D σ H ⟨F, env, r, f⟩ => set_read hl r f
theorem lc_ps (g : GoodS P G k cs W N sc X) {i : Nat} {own : List (Str × Nat)} {p : Pt} {it : AM.It} {ifs : Oe} {e : E} {x : Str} {px pos lp : Pos} {elt tg iter : Expr} {ifs' : List Expr} {scope : Scope} (h1 : N[i]? = some x) (h2 : lcSw sc x px scope lp = true) (hl : i ∈ l)
    (hb : blkC N sc scope own = true) (hp : chkPt N scope p tg = true) (hs : ∀ i ∈ p.slots, i ∈ own.map (·.2)) (hi : PI X tg iter (wI W X.K cs (clOf P k) it)) (hf : ∀ env x, foldedSetIterable iter env x = pure x)
    (ho : ∀ X', Good P G k cs noW N (relS scope sc) X' → PTs X' ifs' (tOe noW X'.K cs (clOf P k) ifs)) (he : ∀ X', Good P G k cs noW N (relS scope sc) X' → PE X' elt (tE noW X'.K cs (clOf P k) e)) :
    PS X (.Assign [.Name x px] (.ListComp elt [⟨tg, iter, ifs', 0⟩] scope lp) pos) (tSP P k W X.K cs l (.set i (.lc own p it ifs e))) := by
  unfold lcSw at h2
  simp only [Bool.and_eq_true, decide_eq_true_eq, Bool.not_eq_true'] at h2
  obtain ⟨⟨a1, a2⟩, a3⟩ := h2
  have hyl : X.env.scope.names.lookup x = some .local := by rw [g.hsc]; exact a1
  have gg := g.toGood
  refine PS.imp (ps_setLc (wi := wI W X.K cs (clOf P k) it) (g := gPt X.K p) (tt := tOe noW X.K cs (clOf P k) ifs) (te := tE noW X.K cs (clOf P k) e) (own := own) g.calm (by rw [g.hN]; exact g.nd) (by rw [g.hN]; exact h1) hyl (sw_true (by rw [g.hsc]; exact g.knd) hyl a2 a3) hi (by rw [g.hN, g.hsc]; exact blkOk_by hb)
    (fun s H C cl fp => ?_) (fun s H C cl fp => ho _ (gg.blk scope s H C cl fp)) (fun s H C cl fp => he _ (gg.blk scope s H C cl fp)) (hf X.env)) fun D σ H ⟨F, env, r, f⟩ => ?_
  · exact pt_pg (X := X.blk s H scope (compEnvC scope cl C X.env) fp) g.hN g.nd g.calm (locB_blk gg scope s H C cl fp) p tg hp
  · obtain ⟨F2, env2, r2, f2⟩ := set_read hl r f
    exact lc_read hs r2 f2
theorem unp_ps (g : GoodS P G k cs W N sc X) {p : Pt} {e : E} {tg v : Expr} {pos : Pos} (ht : isTup tg = true) (hp : chkPt N sc p tg = true) (hf : ∀ x, locB sc x = true → Loc X.env.scope x ∧ (X.fn x = true ∨ X.env.scope.names.lookup x = some .local)) (hc : isComp v = false) (hv : isTup v = false)
    (he : PE X v (tE W X.K cs (clOf P k) e)) (hl : ∀ i ∈ p.slots, i ∈ l) : PS X (.Assign [tg] v pos) (tSP P k W X.K cs l (.unp p e)) := by
  cases tg <;> first | (cases ht; done) | skip
  rename_i es j tp
  have hg : PG X (.Tuple es j tp) (gPt X.K p) := pt_pg g.hN g.nd g.calm hf p _ hp
  refine PS.imp (ps_asg he hg (by cases v <;> first | rfl | (cases hc; done)) ?_ rfl) fun D σ H ⟨F, env, r, f⟩ => ?_
  · cases v <;> first | rfl | (cases hv; done)
  · unfold evS at f
    refine sstep r f fun t env' v F' H' p' g => ?_
    obtain ⟨F2, p2, s⟩ := p'.kept
    split at g
    · rename_i env2 e2
      refine bind_run p e2 p2.rel p2.rep fun σ' r' o s l' => g _ F2 _ ⟨⟨p2.ext.fr, p2.ext.keep, p2.ext.new, fun q z => p2.ext.own q (o q z)⟩, r', l', fun j hj => s j fun z => hj (hl j z)⟩
    · exact g.elim
theorem par_sw {x y : Str} {px py tp vp : Pos} {a b : Expr} {kt k2 : Nat} (hk : X.env.scope.kind = .function) (hsc : X.env.scope = sc) (h : parB sc x y px py a b = true) : swappedStores [.Tuple [.Name x px, .Name y py] kt tp] (.Tuple [a, b] k2 vp) X.env = pure (some [x, y]) := by
  unfold parB at h
  simp only [Bool.and_eq_true, decide_eq_true_eq, Bool.not_eq_true'] at h
  obtain ⟨⟨⟨⟨⟨⟨⟨h1, h2⟩, h3⟩, h4⟩, h4'⟩, h5⟩, h6⟩, h7⟩ := h
  have kx : X.env.kindOf x = some .local := by show X.env.scope.names.lookup x = _; rw [hsc]; exact h1
  have ky : X.env.kindOf y = some .local := by show X.env.scope.names.lookup y = _; rw [hsc]; exact h2
  have hb : X.env.blockKind = .function := by unfold PySem.Env.blockKind; rw [hk]; rfl
  have e1 : (X.env.kindOf x == some .local) = true := by rw [kx]; rfl
  have e2 : (X.env.kindOf y == some .local) = true := by rw [ky]; rfl
  have fm : ([Expr.Name x px, Expr.Name y py].filterMap fun
    | .Name id pos => if X.env.kindOf id == some .local && pos.line == px.line then some id else none
    | _ => none) = [x, y] := by
    simp only [List.filterMap_cons, List.filterMap_nil, e1, e2, h3, beq_self_eq_true, Bool.and_self, if_true]
  have ed : [x, y].eraseDups = [x, y] := by
    simp [List.eraseDups_cons, h4']
  unfold swappedStores
  dsimp only
  rw [if_neg (by rw [hb]; exact Bool.false_ne_true)]
  have key : ∀ (st : Bool) (nm : List Str), st = false → nm = [x, y] → (if st = true then pure none else if (nm.length != [Expr.Name x px, Expr.Name y py].length || nm.eraseDups.length != nm.length) = true then pure none else if [a, b].all (foldedForSure 8) = true then pure none
      else if [a, b].all (constantsAlone 8) = true then (do unsupported "assign.tuple-of-constant-expressions:order-of-the-stores"; pure (some nm)) else pure (some nm)) = (pure (some [x, y]) : Sem (Option (List Str))) := by
    intro st nm a1 a2
    subst a1 a2
    rw [if_neg Bool.false_ne_true, ed, if_neg (by exact Bool.false_ne_true), if_neg (by rw [h5]; exact Bool.false_ne_true), if_neg (by rw [h6]; exact Bool.false_ne_true)]
  exact key _ _ h7 fm
end
end AM

set_option maxHeartbeats 8000000
/-! statements: one by one -/
namespace AM
open PySem PySem.Spec PyProof.Rows L2
section
variable {P : Tx} {G : Ck} {k : Nat} {cs : Cst} {W : WX} {N : List Str} {sc : Scope} {X : Cx} {l : List Nat}

theorem par_ps (g : GoodS P G k cs W N sc X) {i j : Nat} {a b : E} {x y : Str} {px py tp vp pos : Pos} {a' b' : Expr} {kt k2 : Nat} (h1 : N[i]? = some x) (h2 : N[j]? = some y) (hij : i ≠ j) (hp : parB sc x y px py a' b' = true)
    (ha : PE X a' (tE W X.K cs (clOf P k) a)) (hb : PE X b' (tE W X.K cs (clOf P k) b)) (sa : ∀ (ys : List Expr) (env : PySem.Env), starEach (a' :: ys) env = (false, eval a' env) :: starEach ys env) (sb : ∀ (ys : List Expr) (env : PySem.Env), starEach (b' :: ys) env = (false, eval b' env) :: starEach ys env)
    (hi : i ∈ l) (hj : j ∈ l) : PS X (.Assign [.Tuple [.Name x px, .Name y py] kt tp] (.Tuple [a', b'] k2 vp) pos) (tSP P k W X.K cs l (.par i j a b)) := by
  have hsw := par_sw (X := X) (kt := kt) (k2 := k2) (tp := tp) (vp := vp) (by rw [g.hsc]; exact g.knd) g.hsc hp
  unfold parB at hp
  simp only [Bool.and_eq_true, decide_eq_true_eq] at hp
  have k1 : X.env.scope.names.lookup x = some .local := by rw [g.hsc]; exact hp.1.1.1.1.1.1.1
  have k2' : X.env.scope.names.lookup y = some .local := by rw [g.hsc]; exact hp.1.1.1.1.1.1.2
  refine PS.imp (ps_par (ta := tCons (tE W X.K cs (clOf P k) a) (tCons (tE W X.K cs (clOf P k) b) tNil)) g.calm (by rw [g.hN]; exact g.nd) (by rw [g.hN]; exact h1) (by rw [g.hN]; exact h2) hij k1 k2' (pa_cons ha (pa_cons hb pa_nil (sb _ _)) (sa _ _)) hsw) fun D σ H ⟨F, env, r, f⟩ => ?_
  unfold evS at f
  refine sstep r f fun t env1 v F1 H1 p1 g1 => ?_
  obtain ⟨F1', p1', s1⟩ := p1.kept
  have m1 : Mv X.K cs F H env σ l F1' H1 env1 σ := Mv.one p1'.ext p1'.rel
  refine sstep p1'.rel (Fs.move m1 g1) fun u env2 w F2 H2 p2 g2 => ?_
  obtain ⟨F2', p2', s2⟩ := p2.kept
  have m2 : Mv X.K cs F1' H1 env1 σ l F2' H2 env2 σ := Mv.one p2'.ext p2'.rel
  have g3 := Fs.move m2 g2
  refine ⟨v, w, rfl, ?_⟩
  unfold setS at g3
  by_cases l1 : i < env2.length
  · rw [if_pos l1, R.bind_ok] at g3
    by_cases l2 : j < (env2.set i (some (.d t.snap))).length
    · rw [if_pos l2] at g3
      have q1 : Post X.K cs F2' H2 env2 σ F2' H2 env2 (.d t.snap) v := Post.stay p2'.rel (RepD.mono p2'.ext.fr p1'.rep)
      have n1 := q1.store (l := l) l1 hi
      have q2 : Post X.K cs F2' H2 _ _ F2' H2 _ (.d u.snap) w := Post.stay n1.rel p2'.rep
      exact g3 _ _ _ (n1.trans (q2.store (l := l) l2 hj))
    · rw [if_neg l2] at g3
      exact g3.elim
  · rw [if_neg l1] at g3
    exact g3.elim
theorem setIx_ps (g : GoodS P G k cs W N sc X) {i : Nat} {a v : E} {x : Str} {px sp pos : Pos} {k' v' : Expr} (h1 : nameB N sc i x = true) (h2 : isSlice k' = false) (h3 : isComp v' = false) (ha : PE X k' (tE W X.K cs (clOf P k) a)) (hv : PE X v' (tE W X.K cs (clOf P k) v)) :
    PS X (.Assign [.Subscript (.Name x px) k' sp] v' pos) (tSP P k W X.K cs l (.setIx i a v)) := by
  have hg : PG X (.Subscript (.Name x px) k' sp) (gSub (tVar i) (tE W X.K cs (clOf P k) a) rSetL) := pg_sub (pe_name g.toGood h1) ha set_list (by intro _; cases k' <;> first | rfl | (cases h2; done))
  refine PS.imp (ps_asg hv hg (by cases v' <;> first | rfl | (cases h3; done)) (by cases v' <;> rfl) rfl) fun D σ H ⟨F, env, r, f⟩ => ?_
  unfold evS at f
  refine sstep r f fun t env1 w F1 H1 p1 g1 => ?_
  obtain ⟨F1', p1', s1⟩ := p1.kept
  have m1 : Mv X.K cs F H env σ l F1' H1 env1 σ := Mv.one p1'.ext p1'.rel
  have g1 := Fs.move m1 g1
  split at g1
  · rename_i xs e0
    obtain ⟨o, hs, rt⟩ := p1'.rel.get e0
    refine ⟨o, hs, ?_⟩
    refine sstep p1'.rel g1 fun tk env2 kv F2 H2 p2 g2 => ?_
    obtain ⟨F2', p2', s2⟩ := p2.kept
    have g3 := Fs.move (Mv.one (l := l) p2'.ext p2'.rel) g2
    unfold putR at g3
    split at g3
    · rename_i ys n e1 e2
      split at g3
      · rename_i jx hj
        obtain ⟨o', hs', rt'⟩ := p2'.rel.get e1
        rw [hs] at hs'; cases hs'
        obtain ⟨p, vs, rfl, hH, hF, rd⟩ := rt'
        have rk : RepD X.K cs F2' (.int n) kv := by rw [← e2]; exact p2'.rep
        cases rk
        have rw' : RepD X.K cs F2' t.snap w := RepD.mono p2'.ext.fr p1'.rep
        obtain ⟨r3, x3, _, _⟩ := p2'.rel.put e1 hs hH (RepDs.set rw' jx rd)
        rw [rd.length] at hj
        exact ⟨p, vs, n, jx, rfl, rfl, hH, hj, g3 _ _ _ (Mv.one x3 r3)⟩
      · exact g3.elim
    · exact g3.elim
  · exact g1.elim
theorem aug_ps (g : GoodS P G k cs W N sc X) {i : Nat} {e : E} {x : Str} {o : Operator} {px pos : Pos} {e' : Expr} (h1 : N[i]? = some x) (h2 : locB sc x = true) (hfn : X.fn x = true ∨ X.env.scope.names.lookup x = some .local) (he : PE X e' (tE W X.K cs (clOf P k) e)) (hl : i ∈ l) (ho : o = .Add ∨ o = .Sub) :
    PS X (.AugAssign (.Name x px) o e' pos) (tSP P k W X.K cs l (.aug i o e)) := by
  obtain ⟨n1, n2, n3⟩ := lname g.toGood h1 h2
  have go : ∀ (fo : Int → Int → Int), PIp X o (ipI fo) → (∀ a b env, augR i o (.int a) (.int b) env = setS i (.d (.int (fo a b))) env) → (∀ x d env, (∀ a b, ¬ (x = .int a ∧ d = .int b)) → augR i o x d env = .no) → PS X (.AugAssign (.Name x px) o e' pos) (tSP P k W X.K cs l (.aug i o e)) := by
    intro fo hp h3 h4
    refine PS.imp (ps_aug n1 n2 n3 he hp hfn) fun D σ H ⟨F, env, r, f⟩ => ?_
    unfold evS at f
    split at f
    · rename_i d e0
      obtain ⟨v, hs, rt⟩ := r.get e0
      refine ⟨v, hs, ?_⟩
      refine sstep r f fun t env' w F' H' p g => ?_
      obtain ⟨F2, p2, s2⟩ := p.kept
      by_cases hh : ∃ a b, d = .int a ∧ t.snap = .int b
      · obtain ⟨a, b, rfl, eb⟩ := hh
        have rw' : RepD X.K cs F2 (.int b) w := by rw [← eb]; exact p2.rep
        cases rw'
        cases (show RepD X.K cs F (.int a) v from rt)
        rw [eb, h3] at g
        refine ⟨a, b, rfl, rfl, ?_⟩
        unfold setS at g
        by_cases hi : i < env'.length
        · rw [if_pos hi] at g
          have q2 : Post X.K cs F H env σ F2 H' env' (.d (.int (fo a b))) (.int (fo a b)) := ⟨p2.ext, p2.rel, .int _, fun z => by cases z⟩
          exact g _ _ _ (q2.store hi hl)
        · rw [if_neg hi] at g
          exact g.elim
      · rw [h4 _ _ _ fun a b z => hh ⟨a, b, z⟩] at g
        exact g.elim
    · exact f.elim
  rcases ho with rfl | rfl
  · refine go _ ip_add (fun _ _ _ => rfl) fun x d env h => ?_
    cases x <;> first | rfl | (cases d <;> first | rfl | exact (h _ _ ⟨rfl, rfl⟩).elim)
  · refine go _ ip_sub (fun _ _ _ => rfl) fun x d env h => ?_
    cases x <;> first | rfl | (cases d <;> first | rfl | exact (h _ _ ⟨rfl, rfl⟩).elim)
theorem exp_ps (g : GoodS P G k cs W N sc X) {e : E} {e' : Expr} {pos : Pos} (hc : isComp e' = false) (he : PE X e' (tE W X.K cs (clOf P k) e)) : PS X (.Expr e' pos) (tSP P k W X.K cs l (.exp e)) := by
  refine PS.imp (ps_expr he (sw_false hc)) fun D σ H ⟨F, env, r, f⟩ => ?_
  unfold evS at f
  exact sstep r f fun t env' v F' H' p g => g _ _ _ (Mv.one p.ext p.rel)
theorem app_ps (g : GoodS P G k cs W N sc X) {i : Nat} {e : E} {x : Str} {a : Expr} {p apos cpos pos : Pos} (hn : nameB N sc i x = true) (he : PE X a (tE W X.K cs (clOf P k) e)) (s : ∀ (ys : List Expr) (env : PySem.Env), starEach (a :: ys) env = (false, eval a env) :: starEach ys env)
    (hl : (apos.endLine == cpos.line) = true) : PS X (.Expr (.Call (.Attribute (.Name x p) (Str.ofString "append") apos) [a] [] cpos) pos) (tSP P k W X.K cs l (.app i e)) := by
  have hv := pe_name (pos := p) g.toGood hn
  have hm : MtR X "list.append" rAppend := mt_append
  have hall : PA X [a] (tCons (tE W X.K cs (clOf P k) e) tNil) := pa_cons he pa_nil (s _ _)
  refine PS.imp (ps_expr (pe_bm PySem.F.plainAttrs_list PySem.F.slot_list_append PySem.F.type_list_append hm hv hall rfl (by rw [s]; rfl) hl (s _ _) rfl) rfl) fun D σ H ⟨F, env, r, f⟩ => ?_
  unfold evS at f
  split at f
  · rename_i xs e0
    obtain ⟨v, hs, p, vs, rfl, hH, hF, rd⟩ := r.get e0
    refine ⟨_, hs, .inl ⟨rfl, _, .inl (.inl hH)⟩, ?_⟩
    refine sstep r f fun t env' w F' H' po g => ?_
    obtain ⟨F2, p2, s2⟩ := po.kept
    have g3 := Fs.move (Mv.one (l := l) p2.ext p2.rel) g
    unfold appR at g3
    split at g3
    · rename_i ys e1
      split at g3
      · rename_i hz
        obtain ⟨v', hs', p', vs', e2, hH', hF', rd'⟩ := p2.rel.get e1
        rw [hs] at hs'; cases hs'
        cases e2
        obtain ⟨r3, x3, _, _⟩ := p2.rel.put e1 hs hH' (rd'.append (.cons p2.rep .nil))
        exact ⟨p, vs', w, rfl, rfl, hH', by rw [← rd'.length]; exact hz, g3 _ _ _ (Mv.one x3 r3)⟩
      · exact g3.elim
    · exact g3.elim
  · exact f.elim
theorem ret_ps (g : GoodS P G k cs W N sc X) {e : E} {e' : Expr} {pos : Pos} (he : PE X e' (tE W X.K cs (clOf P k) e)) : PS X (.Return (some e') pos) (tSP P k W X.K cs l (.ret e)) := by
  refine PS.imp (ps_ret he) fun D σ H ⟨F, env, r, f⟩ => ?_
  unfold evS at f
  exact sstep r f fun t env' v F' H' p g => g v σ F' H' (Mv.one p.ext p.rel) p.rep p.fresh
theorem mov_ps (g : GoodS P G k cs W N sc X) {i : Nat} {x : Str} {p pos : Pos} (hn : nameB N sc i x = true) : PS X (.Return (some (.Name x p)) pos) (tSP P k W X.K cs l (.mov i)) := by
  refine PS.imp (ps_ret (pe_name g.toGood hn)) fun D σ H ⟨F, env, r, f⟩ => ?_
  unfold evS at f
  split at f
  · rename_i t e0
    obtain ⟨v, hs, rt⟩ := r.get e0
    obtain ⟨rd, ob, fr⟩ := r.drop (getD_some e0) hs
    exact ⟨v, hs, f v σ F H ⟨⟨Sub.refl F, fun _ _ h _ => h, fun _ a b => absurd b a, fun q z => .inl (ob q z)⟩, rd, Same.refl _ _⟩ rt fun o q e => ⟨(fr o q e).1, .inl (fr o q e).2⟩⟩
  · exact f.elim
theorem retN_ps {pos : Pos} : PS X (.Return none pos) (tSP P k W X.K cs l .retN) := PS.imp ps_retN fun D σ H ⟨F, env, r, f⟩ => by
  unfold evS at f
  exact f _ σ F H (Mv.refl r) .non fun z => by cases z
theorem brk_ps {pos : Pos} : PS X (.Break pos) (tSP P k W X.K cs l .brk) := PS.imp ps_break fun D σ H ⟨F, env, r, f⟩ => by
  unfold evS at f
  exact f σ F H (Mv.refl r)
theorem cnt_ps {pos : Pos} : PS X (.Continue pos) (tSP P k W X.K cs l .cnt) := PS.imp ps_continue fun D σ H ⟨F, env, r, f⟩ => by
  unfold evS at f
  exact f σ F H (Mv.refl r)
theorem pass_ps {pos : Pos} : PS X (.Pass pos) (tSP P k W X.K cs l .pass) := PS.imp ps_pass fun D σ H ⟨F, env, r, f⟩ => by
  unfold evS at f
  exact f σ F H (Mv.refl r)
theorem ife_ps {c : E} {a b : Ss} {c' : Expr} {a' b' : List Stmt} {pos : Pos} (hc : PT X c' (tT W X.K cs (clOf P k) c)) (ha : PSs X a' (tSPs P k W X.K cs l a)) (hb : PSs X b' (tSPs P k W X.K cs l b)) : PS X (.If c' a' b' pos) (tSP P k W X.K cs l (.ife c a b)) := by
  refine PS.imp (ps_if hc ha hb) fun D σ H ⟨F, env, r, f⟩ => ?_
  unfold evS at f
  refine sstepT r f fun t env' F' H' m g => ?_
  cases t with
  | true => exact iteT ⟨F', env', m.rel, Fs.move m g⟩
  | false => exact iteF ⟨F', env', m.rel, Fs.move m g⟩
theorem wh_ps (g : GoodS P G k cs W N sc X) {c : E} {b : Ss} {c' : Expr} {body : List Stmt} {pos : Pos} (hc : PT X c' (tT W X.K cs (clOf P k) c)) (hb : PSs X body (tSPs P k W X.K cs l b)) : PS X (.While c' body [] pos) (tSP P k W X.K cs l (.wh c b)) := by
  refine PS.imp (ps_while g.pass hc hb) fun D σ H ⟨F, env, r, f⟩ => ?_
  unfold evS at f
  refine ⟨fun n σ' H' => ∃ F' env', Rel X.K cs F' H' env' σ' ∧ Fs W X.K cs l D (whL (fun env1 => (evE (clOf P k) c env1).bl) (fun env1 => evSs (clOf P k) P.isa b env1) n env') F' H' env' σ', ⟨most, F, env, r, f⟩, ?_⟩
  rintro n σ1 H1 ⟨F1, env1, r1, f1⟩
  cases n with
  | zero => exact f1.elim
  | succ n =>
    unfold whL at f1
    refine sstepT r1 f1 fun t env2 F2 H2 m2 g2 => ?_
    have g2 := Fs.move m2 g2
    cases t with
    | false => exact iteF (g2 _ _ _ (Mv.refl m2.rel))
    | true =>
      refine iteT ⟨fun σ' H' => ∃ F' env', Rel X.K cs F' H' env' σ' ∧ Fs W X.K cs l D (whL (fun env1 => (evE (clOf P k) c env1).bl) (fun env1 => evSs (clOf P k) P.isa b env1) n env') F' H' env' σ', fun σ' H' z => ⟨n, Nat.lt_succ_self _, z⟩, F2, env2, m2.rel, ?_⟩
      refine (Fit.bind g2).mono (fun _ _ z => z) fun fl e z => ?_
      cases fl with
      | nx => exact fun σ' F' H' m => ⟨F', e, m.rel, Fs.move m z⟩
      | ct => exact fun σ' F' H' m => ⟨F', e, m.rel, Fs.move m z⟩
      | bk => exact z
      | rt t => exact z
/-- a for -/
theorem fo_ps (g : GoodS P G k cs W N sc X) {p : Pt} {it : AM.It} {b : Ss} {tg iter : Expr} {body : List Stmt} {pos : Pos} (hi : PI X tg iter (wI W X.K cs (clOf P k) it)) (hf : ∀ env x, foldedSetIterable iter env x = pure x) (hg : PG X tg (gPt X.K p))
    (hb : PSs X body (tSPs P k W X.K cs (p.slots ++ b.asg) b)) (hl : ∀ i ∈ p.slots ++ b.asg, i ∈ l) : PS X (.For tg iter body [] pos) (tSP P k W X.K cs l (.fo p it b)) := by
  refine PS.imp (ps_for g.pass g.calm hi hg hb (hf X.env)) fun D σ H ⟨F, env, r, f⟩ => ?_
  unfold evS at f
  split at f
  · exact f.elim
  rename_i hap
  have hap : apart it.lk (p.slots ++ b.asg) = true := hap
  have ap : ∀ i ∈ it.lk, i ∉ p.slots ++ b.asg := fun i hi z => by
    have := List.all_eq_true.mp hap i hi
    simp only [Bool.not_eq_true', List.contains_eq_mem, decide_eq_false_iff_not] at this
    exact this z
  refine ⟨F, env, r, f.bind.mono (fun _ _ z => z.at (Mv.refl r)) fun ds env0 g F1 H1 J Cn Fp x1 r1 jo cn nfp => ?_⟩
  have m1 : Mv X.K cs F H env σ l F1 H1 env0 σ := Mv.one x1 r1
  have g := Fs.move m1 g
  obtain ⟨rw1, ow1⟩ := r1.wiped (own := []) (l := it.lk) (fun _ z => by cases z)
  have wz : L2.wipe σ [] = σ := rfl
  rw [wz] at rw1 ow1
  let Wv : Nat → Nat → L2.St → Hp → Prop := fun i m σ' H' => m = ds.length - i ∧ i ≤ ds.length ∧ ∃ F' env', Mv X.K cs F1 H1 (wipeE env0 it.lk) σ (p.slots ++ b.asg) F' H' env' σ' ∧ Cn F' H' ∧ env'.length = env0.length ∧
    Fs W X.K cs l D ((forL (fun d env1 => match bindPt p d env1 with
        | none => .no
        | some env2 => evSs (clOf P k) P.isa b env2) (ds.drop i) env').bind fun f env9 => match f with
          | .rt t => .ok (.rt t) (backE env9 env0 it.lk)
          | _ => .ok .nx (backE env9 env0 it.lk)) F1 H1 env0 σ
  have low : ∀ q, Own (wipeE env0 it.lk) σ q → Own env0 σ q := fun q z => by
    obtain ⟨i, t, _, e, o, s⟩ := ow1 q z
    exact ⟨i, t, e, o, s⟩
  -- an end of the loop, back in the outer slots
  have back : ∀ {F9 H9 : Hp} {env9 : AM.Env} {σ9 : L2.St}, Mv X.K cs F1 H1 (wipeE env0 it.lk) σ (p.slots ++ b.asg) F9 H9 env9 σ9 → Mv X.K cs F1 H1 env0 σ l F9 H9 (backE env9 env0 it.lk) σ9 := fun {F9 H9 env9 σ9} m9 => by
    obtain ⟨rb, xb⟩ := back_state (l := it.lk) (σT := σ9) r1 m9.ext ow1 m9.rel (by rw [r1.len, m9.rel.len, m9.same.1]) rfl (fun i hi => m9.same.2 i (ap i hi)) fun _ _ => rfl
    exact ⟨xb, rb, m9.same.mono hl⟩
  have backX : ∀ {F9 H9 : Hp} {env9 : AM.Env} {σ9 : L2.St}, Mv X.K cs F1 H1 (wipeE env0 it.lk) σ (p.slots ++ b.asg) F9 H9 env9 σ9 → Mv X.K cs F1 H1 env0 σ l F9 H9 env9 σ9 := fun {F9 H9 env9 σ9} m9 =>
    ⟨⟨m9.ext.fr, fun q o e n => m9.ext.keep q o e fun z => n (low q z), fun q a b => (m9.ext.new q a b).imp (low q) id, fun q z => (m9.ext.own q z).imp (low q) id⟩, m9.rel, m9.same.mono hl⟩
  refine ⟨Wv, ⟨ds.length, by simp, Nat.zero_le _, F1, wipeE env0 it.lk, Mv.refl rw1, cn, wipeE_length _, g⟩, ?_⟩
  rintro i m σ' H' ⟨rfl, hi, F', env', m', cn', le, g'⟩
  by_cases hlt : i < ds.length
  · right
    refine ⟨jo.go F' H' i cn' hlt, fun σ'' H'' => Wv (i + 1) (ds.length - (i + 1)) σ'' H'', fun σ'' H'' w => ⟨_, by omega, w⟩, fun x H2 y => ?_⟩
    have hdr : ds.drop i = ds[i] :: ds.drop (i + 1) := List.drop_eq_getElem_cons hlt
    rw [hdr] at g'
    unfold forL at g'
    have g1 := g'.bind.bind
    obtain ⟨F2, r2, x2, cn2, rd⟩ := jo.yld F' H' env' σ' i x H2 ds[i] cn' m'.rel y (List.getElem?_eq_getElem hlt)
    have m2' : Mv X.K cs F1 H1 (wipeE env0 it.lk) σ (p.slots ++ b.asg) F2 H2 env' σ' := m'.trans (Mv.one x2 r2)
    cases eb : bindPt p ds[i] env' with
    | none => rw [eb] at g1; exact g1.elim
    | some env2 =>
      rw [eb] at g1
      refine bind_run p eb r2 rd fun σ2 r3 o3 s3 l3 => ?_
      have m2 : Mv X.K cs F1 H1 (wipeE env0 it.lk) σ (p.slots ++ b.asg) F2 H2 env2 σ2 := ⟨⟨m2'.ext.fr, m2'.ext.keep, m2'.ext.new, fun q z => m2'.ext.own q (o3 q z)⟩, r3, m2'.same.trans ⟨l3, fun j hj => s3 j fun z => hj (List.mem_append_left _ z)⟩⟩
      have nofp : ∀ q, Fp q → ¬ Own env2 σ2 q := fun q hq z => by
        rcases m2.ext.own q z with u | u
        · obtain ⟨i, t, hi, e, o, s⟩ := ow1 q u
          exact nfp q hq ⟨i, t, by rw [wipeE_out hi]; exact e, o, s⟩
        · exact jo.live F1 H1 q cn hq u
      have next : ∀ {e : AM.Env}, Fit (forL (fun d env1 => match bindPt p d env1 with
        | none => .no
        | some env2 => evSs (clOf P k) P.isa b env2) (ds.drop (i + 1)) e) (WxS W X.K cs F1 H1 env0 σ l) (fun f env9 => Fit (match f with
          | .rt t => R.ok (.rt t) (backE env9 env0 it.lk)
          | _ => .ok .nx (backE env9 env0 it.lk)) (WxS W X.K cs F1 H1 env0 σ l) (KsOf X.K cs F1 H1 env0 σ l D)) → ∀ σ'' F'' H'', Mv X.K cs F2 H2 env2 σ2 (p.slots ++ b.asg) F'' H'' e σ'' → Wv (i + 1) (ds.length - (i + 1)) σ'' H'' := fun {e} z σ'' F'' H'' mv =>
        ⟨rfl, hlt, F'', e, m2.trans mv, jo.keep _ _ _ _ _ _ cn2 mv.ext nofp, by rw [mv.rel.len, mv.same.1, m2.same.1, r1.len], Fit.unbind z⟩
      refine ⟨F2, env2, r3, g1.mono (fun x e z cl d σ'' F'' H'' mv rx => z cl d σ'' F'' H'' (backX (m2.trans mv)) rx) fun fl e z => ?_⟩
      cases fl with
      | nx => exact next z
      | ct => exact next z
      | bk => exact fun σ'' F'' H'' mv => z σ'' F'' H'' (back (m2.trans mv))
      | rt t =>
          refine fun v σ'' F'' H'' mv rt fr => z v σ'' F'' H'' (back (m2.trans mv)) rt fun o q eq => ?_
          obtain ⟨a1, a2⟩ := fr o q eq
          have a3 := m2.ext.back a2
          refine ⟨fun ⟨j, u, ej, oj, sj⟩ => ?_, a3.imp (low q) id⟩
          by_cases hj : j ∈ it.lk
          · have hlt2 : j < e.length := by
              have := (List.getElem?_eq_some_iff.mp ej).1
              rw [backE_length] at this
              exact this
            rw [backE_in hj hlt2] at ej
            have e0 := getD_some (Option.some.inj ej)
            have s0 : σ[j]? = some (some (.ref q)) := by rw [← (m2.trans mv).same.2 j (ap j hj)]; exact sj
            rcases a3 with z | z
            · obtain ⟨i2, t2, hi2, e2, o2, s2⟩ := ow1 q z
              exact hi2 ((r1.sep i2 j t2 u q e2 e0 o2 oj s2 s0) ▸ hj)
            · exact r1.live ⟨j, u, e0, oj, s0⟩ z
          · rw [backE_out hj] at ej
            exact a1 ⟨j, u, ej, oj, sj⟩
  · left
    have e : i = ds.length := by omega
    subst e
    refine ⟨jo.stop F' H' _ cn' (Nat.le_refl _), ?_⟩
    rw [List.drop_length] at g'
    exact g' σ' F' H' (back m')
end
end AM

set_option maxHeartbeats 8000000
/-! statements: errors, suites, all together -/
namespace AM
open PySem PySem.Spec PyProof.Rows L2
section
variable {P : Tx} {G : Ck} {k : Nat} {cs : Cst} {W : WX} {N : List Str} {sc : Scope} {X : Cx} {l : List Nat}

/-- X() -/
theorem pmk_own0 {C : Addr} {bmB : List Value} {B newId initId : String} {x : Str} {p pos : Pos} (F : ExcBaseFacts B newId initId bmB) (q : PySem.W.excIn X.K C bmB newId = true) (gC : X.mg x = some (.ref C)) (kC : PySem.W.keepIn X.K (.ref C) = true) (r : Raises X (.ref C)) (hg : Gl X x)
    (hdb : (x == ("__debug__" : Str)) = false) : PMk X (.Call (.Name x p) [] [] pos) (fun _ H Q => Q (.ref C) none H) := by
  intro pins s σ H Q I h
  refine wpAny_Call_Name_kw (ld_glob I hg gC ?_ hdb)
  refine PySem.W.callWith_K0 I.kIn kC ?_
  show wpAny _ _ (call (.ref C) []) _ _ _
  obtain ⟨bm, N, nm, qn, bs, hdct, sn, sub, ab, col, dd, k0, k1, k2, k3, k5, mN, hC, hN, hni, T⟩ := exc_obj I.kIn q
  refine wpAny_call_exc_subT F T hC hN hni (fun h' e hm => ?_) (by show 0 ≤ sizeLine; omega)
  exact mk_of I hm r h (I.hok.gone hm.new)
theorem rais_ps (g : GoodS P G k cs W N sc X) {c : Nat} {x : Str} {p cpos pos : Pos} (h1 : G.xc[c]? = some x) (h2 : c ∈ G.xp) (h3 : glB sc x = true) : PS X (.Raise (some (.Call (.Name x p) [] [] cpos)) none pos) (tSP P k W X.K cs l (.rais c .nil)) := by
  obtain ⟨g1, g2, g3⟩ := glB_of h3
  obtain ⟨a, hc, hm⟩ := g.cls c x h1
  obtain ⟨hk, hr, bmB, B, newId, initId, FF, he⟩ := g.mkx c x a h1 h2 hc
  refine PS.imp (ps_raise g.calm g.takes (pmk_own0 FF he hm hk hr (g.toGood.gl g1) g2)) fun D σ H ⟨F, env, r, f⟩ => ?_
  unfold evS evEs at f
  exact f (.ref a) none σ F H (Mv.refl r) ⟨a, hc, rfl, rfl, rfl⟩

/-- one behind another -/
theorem cons_ps {C : Cl} {isa : Nat → Nat → Bool} {K : PySem.W.Frag} {s : S} {ss : Ss} {st : Stmt} {sts : List Stmt} (h1 : PS X st (tS W K cs C isa l s)) (h2 : PSs X sts (tSs W K cs C isa l ss)) : PSs X (st :: sts) (tSs W K cs C isa l (.cons s ss)) := by
  refine PSs.imp (pss_cons h1 h2) fun D σ H ⟨F, env, r, f⟩ => ?_
  unfold evSs at f
  refine ⟨F, env, r, f.bind.mono (fun _ _ z => z) fun fl e z => ?_⟩
  cases fl with
  | nx => exact fun σ' F' H' m => ⟨F', e, m.rel, Fs.move m z⟩
  | ct => exact z
  | bk => exact z
  | rt t => exact z
theorem nil_ps {C : Cl} {isa : Nat → Nat → Bool} {K : PySem.W.Frag} : PSs X [] (tSs W K cs C isa l .nil) := PSs.imp pss_nil fun D σ H ⟨F, env, r, f⟩ => by
  unfold evSs at f
  exact f σ F H (Mv.refl r)
theorem frz_ps {C : Cl} {isa : Nat → Nat → Bool} {K : PySem.W.Frag} {i : Nat} {ss : Ss} {sts : List Stmt} (h : PSs X sts (tSs W K cs C isa l ss)) : PSs X sts (tSs W K cs C isa l (.cons (.frz i) ss)) := by
  refine PSs.imp h fun D σ H ⟨F, env, r, f⟩ => ?_
  unfold evSs evS at f
  split at f
  · rename_i t e0
    obtain ⟨F', m⟩ := r.freeze (l := l) (getD_some e0)
    exact ⟨F', _, m.rel, Fs.move m f⟩
  · exact f.elim

/-! ### suites -/
theorem su1_ps {C : Cl} {isa : Nat → Nat → Bool} {s : S} {st : Stmt} (hN : X.N = N) (nd : N.Nodup) (hsc : X.env.scope = sc) (h : chkSu1 N sc s st = true) (hl : ∀ i ∈ s.asg, i ∈ l) : PS X st (tS W X.K cs C isa l s) := by
  unfold chkSu1 at h
  split at h
  · simp only [Bool.and_eq_true, decide_eq_true_eq] at h
    obtain ⟨⟨h1, h2⟩, h3⟩ := h
    have hx := h2
    rw [← hsc] at hx
    exact PS.imp (ps_set (by rw [hN]; exact nd) (by rw [hN]; exact h1) (.inl hx) (cst_pe (W := W) (cs := cs) (C := C) h3) rfl (.inr hx)) fun D σ H ⟨F, env, r, f⟩ => set_read (hl _ (by simp [S.asg])) r f
  · refine PS.imp (ps_ret (cst_pe (W := W) (cs := cs) (C := C) h)) fun D σ H ⟨F, env, r, f⟩ => ?_
    unfold evS at f
    exact sstep r f fun t env' v F' H' p g => g v σ F' H' (Mv.one p.ext p.rel) p.rep p.fresh
  · exact PS.imp ps_retN fun D σ H ⟨F, env, r, f⟩ => by
      unfold evS at f
      exact f _ σ F H (Mv.refl r) .non fun z => by cases z
  · exact PS.imp ps_pass fun D σ H ⟨F, env, r, f⟩ => by
      unfold evS at f
      exact f σ F H (Mv.refl r)
  · exact PS.imp ps_continue fun D σ H ⟨F, env, r, f⟩ => by
      unfold evS at f
      exact f σ F H (Mv.refl r)
  · exact PS.imp ps_break fun D σ H ⟨F, env, r, f⟩ => by
      unfold evS at f
      exact f σ F H (Mv.refl r)
  · cases h
theorem su_ps {C : Cl} {isa : Nat → Nat → Bool} (hN : X.N = N) (nd : N.Nodup) (hsc : X.env.scope = sc) : ∀ (ss : Ss) (sts : List Stmt), chkSu N sc ss sts = true → (∀ i ∈ ss.asg, i ∈ l) → PSs X sts (tSs W X.K cs C isa l ss)
  | .nil, [], _, _ => nil_ps
  | .nil, _ :: _, h, _ => by simp [chkSu] at h
  | .cons _ _, [], h, _ => by simp [chkSu] at h
  | .cons s ss, st :: sts, h, hl => by
    simp only [chkSu, Bool.and_eq_true] at h
    exact cons_ps (su1_ps hN nd hsc h.1 fun i hi => hl i (by simp [Ss.asg, hi])) (su_ps hN nd hsc ss sts h.2 fun i hi => hl i (by simp [Ss.asg, hi]))

/-! ### try -/
/-- the clauses' readings -/
def hdl (P : Tx) (k : Nat) (W : WX) (K : PySem.W.Frag) (cs : Cst) (l : List Nat) : Hs → List (Value × (Addr → Value → Option Addr → TS))
  | .nil => []
  | .cons c _ b hs => (.ref ((cs c).getD 0), fun _ _ _ => tSPs P k W K cs l b) :: hdl P k W K cs l hs
theorem hdl_ok (g : GoodS P G k cs W N sc X) : ∀ (hs : Hs) (hds : List ExceptHandler), chkHs G N sc hs hds = true → (∀ i ∈ hs.asg, i ∈ l) → HdsOk X hds (hdl P k W X.K cs l hs)
  | .nil, hds, h, hl => by
    simp only [chkHs, List.isEmpty_iff] at h
    subst h
    exact .nil
  | .cons c o b hs, hds, h, hl => by
    unfold chkHs at h
    split at h
    · simp only [Bool.and_eq_true, decide_eq_true_eq] at h
      obtain ⟨⟨⟨h1, h2⟩, h3⟩, h4⟩ := h
      obtain ⟨a, hc, hm⟩ := g.cls _ _ h1
      obtain ⟨g1, g2, g3⟩ := glB_of h2
      have e : (cs c).getD 0 = a := by rw [hc]; rfl
      refine .cons ⟨g.toGood.gl g1, g2, .inl (by rw [e]; exact hm)⟩ (fun a' oe cl d pn hz hv => ?_) (hdl_ok g hs _ h4 fun i hi => hl i (by simp [Hs.asg, hi]))
      exact su_ps (X := X.suite a' ((a', oe) :: pn)) g.hN g.nd g.hsc b _ h3 fun i hi => hl i (by simp [Hs.asg, hi])
    · cases h
theorem hdl_read (g : GoodS P G k cs W N sc X) {D : Ends} {x : AM.X} {cl : Value} {d : Option Addr} {F H : Hp} {env : AM.Env} {σ : L2.St} (rx : RepX X.K cs F H x cl d) (r : Rel X.K cs F H env σ) : ∀ (hs : Hs) (hds : List ExceptHandler), chkHs G N sc hs hds = true → Fs W X.K cs l D (evHs (clOf P k) P.isa hs x env) F H env σ → wMany X.K W D (hdl P k W X.K cs l hs) cl d σ H
  | .nil, hds, h, f => f cl d σ F H (Mv.refl r) rx
  | .cons c o b hs, hds, h, f => by
    unfold chkHs at h
    split at h
    · simp only [Bool.and_eq_true, decide_eq_true_eq] at h
      obtain ⟨⟨⟨h1, h2⟩, h3⟩, h4⟩ := h
      obtain ⟨a2, hc, hm⟩ := g.cls _ _ h1
      obtain ⟨a, ha, rfl, _⟩ := id rx
      have e : (cs c).getD 0 = a2 := by rw [hc]; rfl
      have q := g.exm x.c c a a2 _ ha h1 hc
      unfold evHs at f
      refine ⟨P.isa x.c c, by rw [e]; exact q, fun z a' _ => ?_, fun z => ?_⟩
      · rw [z] at f
        exact ⟨F, env, r, f⟩
      · rw [z] at f
        exact hdl_read g rx r hs _ h4 f
    · cases h
theorem tr_ps (g : GoodS P G k cs W N sc X) {b : Ss} {hs : Hs} {body : List Stmt} {h0 : ExceptHandler} {hds : List ExceptHandler} {pos : Pos} (h : chkHs G N sc hs (h0 :: hds) = true) (hl : ∀ i ∈ hs.asg, i ∈ l)
    (hb : ∀ X' W', GoodS P G k cs W' N sc X' → PSs X' body (tSPs P k W' X'.K cs l b)) : PS X (.Try body (h0 :: hds) [] [] pos) (tSP P k W X.K cs l (.tr b hs)) := by
  refine PS.imp (ps_try_many (tb := fun W' => tSPs P k W' X.K cs l b) g.stk g.frm g.takes (fun W' pn xe tk pa => hb (X.tr pn xe) W' { g with takes := tk, pass := pa }) (hdl_ok g hs _ h hl)) fun D σ H ⟨F, env, r, f⟩ => ?_
  refine ⟨F, env, r, ?_⟩
  unfold evS at f
  unfold Fs at f ⊢
  cases e : evSs (clOf P k) P.isa b env with
  | ok fl env' => rw [e] at f; exact f
  | ex x env' =>
    rw [e] at f
    exact fun cl d σ' F' H' m rx => hdl_read g rx m.rel hs _ h (Fs.move m f)
  | no => rw [e] at f; exact f
end
end AM

set_option maxHeartbeats 8000000
/-! statements: all together -/
namespace AM
open PySem PySem.Spec PyProof.Rows L2
section
variable {P : Tx} {G : Ck} {k : Nat} {cs : Cst}
def SndS (P : Tx) (G : Ck) (k : Nat) (cs : Cst) (s : S) : Prop := ∀ (N : List Str) (sc : Scope) (X : Cx) (W : WX) (st : Stmt) (l : List Nat), GoodS P G k cs W N sc X → chkS G N sc s st = true → (∀ i ∈ s.asg, i ∈ l) → PS X st (tSP P k W X.K cs l s)
def SndSs (P : Tx) (G : Ck) (k : Nat) (cs : Cst) (ss : Ss) : Prop := ∀ (N : List Str) (sc : Scope) (X : Cx) (W : WX) (sts : List Stmt) (l : List Nat), GoodS P G k cs W N sc X → chkSs G N sc ss sts = true → (∀ i ∈ ss.asg, i ∈ l) → PSs X sts (tSPs P k W X.K cs l ss)

theorem GoodS.tgt {W : WX} {N : List Str} {sc : Scope} {X : Cx} (g : GoodS P G k cs W N sc X) : ∀ x, locB sc x = true → Loc X.env.scope x ∧ (X.fn x = true ∨ X.env.scope.names.lookup x = some .local) := fun x h => by
  refine ⟨by rw [g.hsc]; exact locB_of h, ?_⟩
  rw [g.hsc]
  exact g.fnl x h
theorem pe_of {W : WX} {N : List Str} {sc : Scope} {X : Cx} (g : GoodS P G k cs W N sc X) {e : E} {x : Expr} (h : chkE G N sc false e x = true) : PE X x (tE W X.K cs (clOf P k) e) := (snd_E e false N sc X W x g.toGood h).1 rfl
theorem pt_of {W : WX} {N : List Str} {sc : Scope} {X : Cx} (g : GoodS P G k cs W N sc X) {e : E} {x : Expr} (h : chkE G N sc true e x = true) : PT X x (tT W X.K cs (clOf P k) e) := (snd_E e true N sc X W x g.toGood h).2.1 rfl
theorem set_all {W : WX} {N : List Str} {sc : Scope} {X : Cx} {l : List Nat} (g : GoodS P G k cs W N sc X) {i : Nat} {e : E} {x : Str} {px pos : Pos} {v : Expr} (h1 : N[i]? = some x) (h2 : locB sc x = true) (h3 : chkE G N sc false e v = true)
    (h4 : setV v = true) (hl : i ∈ l) : PS X (.Assign [.Name x px] v pos) (tSP P k W X.K cs l (.set i e)) := by
  have plain : (swapsWith v (some (.Name x px)) pos.line X.env = pure false) → PS X (.Assign [.Name x px] v pos) (tSP P k W X.K cs l (.set i e)) := fun hs => set_ps g h1 h2 (g.tgt x h2).2 (pe_of g h3) hs hl
  cases v with
  | ListComp elt gs scope lp =>
    cases hsw : lcSw sc x px scope lp with
    | true =>
      unfold chkE at h3
      split at h3
      all_goals try (cases ‹(Expr.ListComp elt gs scope lp : Expr) = _›)
      all_goals first | (cases h3; done) | skip
      · simp only [Bool.and_eq_true, decide_eq_true_eq] at h3
        obtain ⟨⟨⟨⟨⟨⟨a1, a2⟩, a3⟩, a4⟩, a5⟩, a6⟩, a7⟩ := h3
        obtain ⟨pi, pf⟩ := snd_I _ N sc X W _ _ g.toGood a5 a3
        exact lc_ps g h1 hsw hl a1 a2 a4 pi pf (fun X' g' => (snd_O _).1 N _ X' _ _ g' a6) fun X' g' => (snd_E _ false N _ X' _ _ g' a7).1 rfl
    | false =>
      refine plain ?_
      have kk : (X.env.kindOf x == some .local) = decide (sc.names.lookup x = some .local) := by
        show (X.env.scope.names.lookup x == some .local) = _
        rw [g.hsc]
        cases sc.names.lookup x with
        | none => rfl
        | some o => cases o <;> rfl
      have hb : X.env.blockKind = .function := by unfold PySem.Env.blockKind; rw [g.hsc, g.knd]; rfl
      unfold lcSw at hsw
      unfold swapsWith
      simp only [hb, kk]
      exact congrArg (pure : Bool → Sem Bool) hsw
  | SetComp _ _ _ _ => cases h4
  | DictComp _ _ _ _ _ => cases h4
  | _ => exact plain (sw_false rfl)

mutual
theorem snd_S : ∀ s : S, SndS P G k cs s
  | .set i e => fun N sc X W st l g h hl => by
    unfold chkS at h
    split at h
    all_goals try (cases ‹(S.set i e : S) = _›)
    all_goals first | (cases h; done) | skip
    simp only [Bool.and_eq_true, decide_eq_true_eq] at h
    obtain ⟨⟨⟨h1, h2⟩, h3⟩, h4⟩ := h
    exact set_all g h1 h2 h3 h4 (hl _ (by simp [S.asg]))
  | .unp p e => fun N sc X W st l g h hl => by
    unfold chkS at h
    split at h
    all_goals try (cases ‹(S.unp p e : S) = _›)
    all_goals first | (cases h; done) | skip
    simp only [Bool.and_eq_true, Bool.not_eq_true'] at h
    obtain ⟨⟨⟨⟨⟨h1, h2⟩, h3⟩, h4⟩, h5⟩, h6⟩ := h
    exact unp_ps g h1 h2 g.tgt h3 h4 (pe_of g h6) fun i hi => hl i (by simpa [S.asg] using hi)
  | .par i j a b => fun N sc X W st l g h hl => by
    unfold chkS at h
    split at h
    all_goals try (cases ‹(S.par i j a b : S) = _›)
    all_goals first | (cases h; done) | skip
    simp only [Bool.and_eq_true, decide_eq_true_eq, Bool.not_eq_true', beq_eq_false_iff_ne] at h
    obtain ⟨⟨⟨⟨⟨h1, h2⟩, h3⟩, h4⟩, h5⟩, h6⟩ := h
    exact par_ps g h1 h2 h3 h4 (pe_of g h5) (pe_of g h6) (notStar h5) (notStar h6) (hl _ (by simp [S.asg])) (hl _ (by simp [S.asg]))
  | .setIx i a v => fun N sc X W st l g h hl => by
    unfold chkS at h
    split at h
    all_goals try (cases ‹(S.setIx i a v : S) = _›)
    all_goals first | (cases h; done) | skip
    simp only [Bool.and_eq_true, Bool.not_eq_true'] at h
    obtain ⟨⟨⟨⟨h1, h2⟩, h3⟩, h4⟩, h5⟩ := h
    exact setIx_ps g h1 h2 h3 (pe_of g h4) (pe_of g h5)
  | .aug i o e => fun N sc X W st l g h hl => by
    unfold chkS at h
    split at h
    all_goals try (cases ‹(S.aug i o e : S) = _›)
    all_goals first | (cases h; done) | skip
    simp only [Bool.and_eq_true, decide_eq_true_eq] at h
    obtain ⟨⟨⟨⟨h1, h2⟩, h3⟩, h4⟩, h5⟩ := h
    subst h3
    refine aug_ps g h1 h2 (g.tgt _ h2).2 (pe_of g h5) (hl _ (by simp [S.asg])) ?_
    split at h4
    · exact .inl rfl
    · exact .inr rfl
    · cases h4
  | .exp e => fun N sc X W st l g h hl => by
    unfold chkS at h
    split at h
    all_goals try (cases ‹(S.exp e : S) = _›)
    all_goals first | (cases h; done) | skip
    simp only [Bool.and_eq_true, Bool.not_eq_true'] at h
    exact exp_ps g h.1 (pe_of g h.2)
  | .app i e => fun N sc X W st l g h hl => by
    unfold chkS at h
    split at h
    all_goals try (cases ‹(S.app i e : S) = _›)
    all_goals first | (cases h; done) | skip
    simp only [Bool.and_eq_true, decide_eq_true_eq] at h
    obtain ⟨⟨⟨⟨h1, h2⟩, h3⟩, h4⟩, h5⟩ := h
    subst h2
    exact app_ps g h1 (pe_of g h5) (notStar h5) h3
  | .ife c a b => fun N sc X W st l g h hl => by
    have ia : SndSs P G k cs a := snd_Ss a
    have ib : SndSs P G k cs b := snd_Ss b
    unfold chkS at h
    split at h
    all_goals try (cases ‹(S.ife c a b : S) = _›)
    all_goals first | (cases h; done) | skip
    simp only [Bool.and_eq_true] at h
    obtain ⟨⟨h1, h2⟩, h3⟩ := h
    exact ife_ps (pt_of g h1) (ia N sc X W _ l g h2 fun i hi => hl i (by simp [S.asg, hi])) (ib N sc X W _ l g h3 fun i hi => hl i (by simp [S.asg, hi]))
  | .fo p it b => fun N sc X W st l g h hl => by
    have ib : SndSs P G k cs b := snd_Ss b
    unfold chkS at h
    split at h
    all_goals try (cases ‹(S.fo p it b : S) = _›)
    all_goals first | (cases h; done) | skip
    simp only [Bool.and_eq_true] at h
    obtain ⟨⟨⟨h1, h2⟩, h3⟩, h4⟩ := h
    obtain ⟨pi, pf⟩ := snd_I it N sc X W _ _ g.toGood h3 h2
    exact fo_ps g pi pf (pt_pg g.hN g.nd g.calm g.tgt p _ h1) (ib N sc X W _ _ g h4 fun i hi => List.mem_append_right _ hi) fun i hi => hl i (by simpa [S.asg] using hi)
  | .wh c b => fun N sc X W st l g h hl => by
    have ib : SndSs P G k cs b := snd_Ss b
    unfold chkS at h
    split at h
    all_goals try (cases ‹(S.wh c b : S) = _›)
    all_goals first | (cases h; done) | skip
    simp only [Bool.and_eq_true] at h
    exact wh_ps g (pt_of g h.1) (ib N sc X W _ l g h.2 fun i hi => hl i (by simpa [S.asg] using hi))
  | .ret e => fun N sc X W st l g h hl => by
    unfold chkS at h
    split at h
    all_goals try (cases ‹(S.ret e : S) = _›)
    all_goals first | (cases h; done) | skip
    exact ret_ps g (pe_of g h)
  | .mov i => fun N sc X W st l g h hl => by
    unfold chkS at h
    split at h
    all_goals try (cases ‹(S.mov i : S) = _›)
    all_goals first | (cases h; done) | skip
    exact mov_ps g h
  | .retN => fun N sc X W st l g h hl => by
    unfold chkS at h
    split at h
    all_goals try (cases ‹(S.retN : S) = _›)
    all_goals first | (cases h; done) | skip
    exact retN_ps
  | .brk => fun N sc X W st l g h hl => by
    unfold chkS at h
    split at h
    all_goals try (cases ‹(S.brk : S) = _›)
    all_goals first | (cases h; done) | skip
    exact brk_ps
  | .cnt => fun N sc X W st l g h hl => by
    unfold chkS at h
    split at h
    all_goals try (cases ‹(S.cnt : S) = _›)
    all_goals first | (cases h; done) | skip
    exact cnt_ps
  | .pass => fun N sc X W st l g h hl => by
    unfold chkS at h
    split at h
    all_goals try (cases ‹(S.pass : S) = _›)
    all_goals first | (cases h; done) | skip
    exact pass_ps
  | .rais c es => fun N sc X W st l g h hl => by
    unfold chkS at h
    split at h
    all_goals try (cases ‹(S.rais c es : S) = _›)
    all_goals first | (cases h; done) | skip
    simp only [Bool.and_eq_true, decide_eq_true_eq] at h
    obtain ⟨⟨h1, h2⟩, h3⟩ := h
    exact rais_ps g h1 h2 h3
  | .tr b hs => fun N sc X W st l g h hl => by
    have ib : SndSs P G k cs b := snd_Ss b
    unfold chkS at h
    split at h
    all_goals try (cases ‹(S.tr b hs : S) = _›)
    all_goals first | (cases h; done) | skip
    simp only [Bool.and_eq_true, Bool.not_eq_true'] at h
    obtain ⟨⟨h1, h2⟩, h3⟩ := h
    rename_i body hds _
    cases hds with
    | nil => cases h1
    | cons h0 r => exact tr_ps g h3 (fun i hi => hl i (by simp [S.asg, hi])) fun X' W' g' => ib N sc X' W' _ l g' h2 fun i hi => hl i (by simp [S.asg, hi])
  | .frz i => fun N sc X W st l g h hl => by
    simp [chkS] at h
theorem snd_Ss : ∀ ss : Ss, SndSs P G k cs ss
  | .nil => fun N sc X W sts l g h hl => by
    simp only [chkSs, List.isEmpty_iff] at h
    subst h
    exact nil_ps
  | .cons s ss => fun N sc X W sts l g h hl => by
    have i1 : SndS P G k cs s := snd_S s
    have i2 : SndSs P G k cs ss := snd_Ss ss
    unfold chkSs at h
    split at h
    · rename_i hz
      cases s <;> first | (cases hz; done) | skip
      exact frz_ps (i2 N sc X W _ l g h fun i hi => hl i (by simp [Ss.asg, hi]))
    · split at h
      · simp only [Bool.and_eq_true] at h
        exact cons_ps (i1 N sc X W _ l g h.1 fun i hi => hl i (by simp [Ss.asg, hi])) (i2 N sc X W _ l g h.2 fun i hi => hl i (by simp [Ss.asg, hi]))
      · cases h
end
end
end AM

set_option maxHeartbeats 8000000
/-! a def keeps what the evaluator promises -/
namespace AM
open PySem PySem.Spec PyProof.Rows L2

theorem zip_lookup {α : Type} : ∀ {ps : List Str} {us : List α}, us.length = ps.length → ps.Nodup → ps.filterMap (fun n => ((ps.zip us).lookup n).map (n, ·)) = ps.zip us := by
  have gen : ∀ (ps : List Str) (us : List α) (pre : List (Str × α)), us.length = ps.length → ps.Nodup → (∀ q ∈ pre, q.1 ∉ ps) → ps.filterMap (fun n => ((pre ++ ps.zip us).lookup n).map (n, ·)) = ps.zip us := by
    intro ps
    induction ps with
    | nil => intro us pre h _ _; rfl
    | cons p ps ih =>
      intro us pre h nd hp
      cases us with
      | nil => simp at h
      | cons u us =>
        rw [List.nodup_cons] at nd
        have lk : (pre ++ (p, u) :: ps.zip us).lookup p = some u := by
          clear ih h
          induction pre with
          | nil => simp
          | cons q pre ih2 =>
            rw [List.cons_append, List.lookup_cons]
            have : (p == q.1) = false := by
              rw [beq_eq_false_iff_ne]
              intro e
              exact hp q List.mem_cons_self (by rw [e]; exact List.mem_cons_self)
            rw [this]
            exact ih2 fun q' hq' => hp q' (List.mem_cons_of_mem _ hq')
        rw [List.zip_cons_cons, List.filterMap_cons, lk]
        simp only [Option.map_some]
        have := ih us (pre ++ [(p, u)]) (by simpa using h) nd.2 fun q hq => by
          rcases List.mem_append.mp hq with z | z
          · exact fun y => hp q z (List.mem_cons_of_mem _ y)
          · have : q = (p, u) := by simpa using z
            rw [this]
            exact nd.1
        rw [List.append_assoc] at this
        rw [show pre ++ (p, u) :: ps.zip us = pre ++ ([(p, u)] ++ ps.zip us) from rfl, this]
  intro ps us h nd
  exact gen ps us [] h nd (fun q hq => by cases hq)
theorem zip_isSome {α : Type} {ps : List Str} {us : List α} (h : us.length = ps.length) {n : Str} (hn : n ∈ ps) : ((ps.zip us).lookup n).isSome = true := by
  induction ps generalizing us with
  | nil => cases hn
  | cons p ps ih =>
    cases us with
    | nil => simp at h
    | cons u us =>
      rw [List.zip_cons_cons, List.lookup_cons]
      cases e : n == p with
      | true => rfl
      | false =>
        refine ih (by simpa using h) ?_
        rcases List.mem_cons.mp hn with z | z
        · subst z; simp at e
        · exact z
theorem lookup_memS {α : Type} : ∀ {l : List (Str × α)} {j : Str} {o : α}, l.lookup j = some o → (j, o) ∈ l
  | [], _, _, h => by cases h
  | (a, b) :: l, j, o, h => by
    rw [List.lookup_cons] at h
    split at h
    · rename_i e
      cases h
      have : j = a := by simpa using e
      subst this
      exact List.mem_cons_self
    · exact List.mem_cons_of_mem _ (lookup_memS h)
theorem bind_plain {fd : FuncData} {ps : List Str} {us : List Value} (h1 : fd.params.posonlyargs = []) (h2 : fd.params.args.map (·.arg) = ps) (h3 : fd.params.vararg = none) (h4 : fd.params.kwonlyargs = []) (h5 : fd.params.kwarg = none) (hd : fd.defaults = .none) (nd : ps.Nodup) (hl : us.length = ps.length) :
    bindArgs fd ⟨us, []⟩ = pure (ps.zip us) := by
  have miss : (ps.take ps.length).filter (fun n => ((ps.zip us).lookup n).isNone) = [] := by
    rw [List.take_length, List.filter_eq_nil_iff]
    intro n hn
    have := zip_isSome hl hn
    cases e : (ps.zip us).lookup n with
    | none => rw [e] at this; cases this
    | some _ => simp
  have sq : seqItems? fd.defaults = pure none := by rw [hd]; rfl
  unfold bindArgs
  simp only [h1, h2, h3, h4, h5, sq, List.map_nil, List.nil_append, List.append_nil, List.forIn_nil, pure_bind, hl]
  simp [miss, zip_lookup hl nd]
  intro x hx hn
  exfalso
  obtain ⟨v, e⟩ := Option.isSome_iff_exists.mp (zip_isSome hl hx)
  exact hn v (lookup_memS e)
end AM

set_option maxHeartbeats 8000000
/-! defs: from the head's facts to what each def promises -/
namespace AM
open PySem PySem.Spec PyProof.Rows L2
section
variable {K : PySem.W.Frag} {cs : Cst} {F H F' H' : Hp} {env env' : AM.Env} {σ σ' : L2.St}

/-- slots behind: not yet stored -/
theorem own_pad {m : Nat} (hl : env.length = σ.length) {p : Addr} : Own (env ++ List.replicate m none) (σ ++ List.replicate m none) p ↔ Own env σ p := by
  constructor
  · rintro ⟨i, t, e, o, s⟩
    by_cases hi : i < env.length
    · rw [List.getElem?_append_left hi] at e
      rw [List.getElem?_append_left (by omega)] at s
      exact ⟨i, t, e, o, s⟩
    · rw [List.getElem?_append_right (by omega), List.getElem?_replicate] at e
      split at e <;> cases e
  · rintro ⟨i, t, e, o, s⟩
    have hi : i < env.length := (List.getElem?_eq_some_iff.mp e).1
    exact ⟨i, t, by rw [List.getElem?_append_left hi]; exact e, o, by rw [List.getElem?_append_left (by omega)]; exact s⟩
theorem Rel.pad {m : Nat} (r : Rel K cs F H env σ) : Rel K cs F H (env ++ List.replicate m none) (σ ++ List.replicate m none) := by
  have back : ∀ (i : Nat) (t : T), (env ++ List.replicate m none)[i]? = some (some t) → env[i]? = some (some t) ∧ (σ ++ List.replicate m none)[i]? = σ[i]? := fun i t e => by
    by_cases hi : i < env.length
    · rw [List.getElem?_append_left hi] at e
      exact ⟨e, List.getElem?_append_left (by rw [← r.len]; exact hi)⟩
    · rw [List.getElem?_append_right (by omega), List.getElem?_replicate] at e
      split at e <;> cases e
  refine ⟨by simp [r.len], r.fin, fun i t e => ?_, fun i j t u p e1 e2 o1 o2 s1 s2 => ?_⟩
  · obtain ⟨a, b⟩ := back i t e
    rw [b]
    exact r.slot i t a
  · obtain ⟨a, b⟩ := back i t e1
    obtain ⟨c, d⟩ := back j u e2
    rw [b] at s1
    rw [d] at s2
    exact r.sep i j t u p a c o1 o2 s1 s2
theorem outs_get {io : List Nat} {j : Nat} {o : Option T} (h : (io.zip (outsOf io env)).lookup j = some o) : j ∈ io ∧ o = env.getD j none := by
  have hm := lookup_mem h
  have : ∀ (l : List Nat), (j, o) ∈ l.zip (l.map fun j => env.getD j none) → j ∈ l ∧ o = env.getD j none := by
    intro l
    induction l with
    | nil => intro h; simp at h
    | cons a l ih =>
      intro h
      rw [List.map_cons, List.zip_cons_cons] at h
      rcases List.mem_cons.mp h with e | e
      · cases e
        exact ⟨List.mem_cons_self, rfl⟩
      · exact ⟨List.mem_cons_of_mem _ (ih e).1, (ih e).2⟩
  exact this io hm
/-- the callee's end, as its caller sees it -/
theorem out_state {vs : List V} {io l : List Nat} {n : Nat} (hn : n = vs.length) (ap : apart io l = true) (r : Rel K cs F' H' env' σ') (sm : Same l (vs.map some ++ List.replicate n' none) σ') :
    Rel K cs F' H' (spreadE n io (outsOf io env')) (vs.map some) ∧ ∀ p, Own (spreadE n io (outsOf io env')) (vs.map some) p → Own env' σ' p := by
  have cls : ∀ (i : Nat) (t : T), (spreadE n io (outsOf io env'))[i]? = some (some t) → env'[i]? = some (some t) ∧ σ'[i]? = (vs.map some)[i]? := fun i t e => by
    obtain ⟨h1, h2⟩ := spreadE_some e
    obtain ⟨h3, h4⟩ := outs_get h2
    have hi : i ∉ l := fun z => by
      have := List.all_eq_true.mp ap i h3
      simp only [Bool.not_eq_true', List.contains_eq_mem, decide_eq_false_iff_not] at this
      exact this z
    refine ⟨getD_some h4.symm, ?_⟩
    rw [sm.2 i hi, List.getElem?_append_left (by rw [List.length_map, ← hn]; exact h1)]
  refine ⟨⟨by rw [spreadE_length, hn, List.length_map], r.fin, fun i t e => ?_, fun i j t u p e1 e2 o1 o2 s1 s2 => ?_⟩, fun p ⟨i, t, e, o, s⟩ => ?_⟩
  · obtain ⟨a, b⟩ := cls i t e
    rw [← b]
    exact r.slot i t a
  · obtain ⟨a, b⟩ := cls i t e1
    obtain ⟨c, d⟩ := cls j u e2
    rw [← b] at s1
    rw [← d] at s2
    exact r.sep i j t u p a c o1 o2 s1 s2
  · obtain ⟨a, b⟩ := cls i t e
    exact ⟨i, t, a, o, by rw [b]; exact s⟩
end

/-- a def of the text: its name, its slots' names, its statement -/
structure Dn where
  x : Str
  N : List Str
  st : Stmt
def Dn.dd (d : Dn) : He.DefD := ⟨(d.x, none), d.x, d.x, defArgs d.st, defBody d.st, defScope d.st, [], []⟩
def plainArgs (a : Arguments) (ps : List Str) : Bool := a.posonlyargs.isEmpty && decide (a.args.map (·.arg) = ps) && a.vararg.isNone && a.kwonlyargs.isEmpty && a.kwarg.isNone
def scB (N P : List Str) (sc : Scope) : Bool :=
  kindF sc && !sc.isCoroutine && !sc.isGenerator && decide N.Nodup && decide (N.take P.length = P) && P.all (fun x => locB sc x) && sc.names.all (fun y => match y.2 with | .free => false | _ => true)
theorem scB_ok {N P : List Str} {sc : Scope} (h : scB N P sc = true) : FnScope N P sc := by
  unfold scB at h
  simp only [Bool.and_eq_true, Bool.not_eq_true', decide_eq_true_eq, List.all_eq_true] at h
  obtain ⟨⟨⟨⟨⟨⟨h1, h2⟩, h3⟩, h4⟩, h5⟩, h6⟩, h7⟩ := h
  refine ⟨?_, h2, h3, h4, h5, fun x hx => locB_of (h6 x hx), fun y hy e => ?_⟩
  · unfold kindF at h1
    split at h1
    · assumption
    · cases h1
  · have := h7 y hy
    rw [e] at this
    cases this
def chkD (G : Ck) (fn : Fn) (d : Dn) : Bool :=
  plainArgs (defArgs d.st) (d.N.take fn.np) && decide (d.N.length = fn.n) && decide (fn.np ≤ fn.n) && scB d.N (d.N.take fn.np) (defScope d.st) && chkSs G d.N (defScope d.st) fn.body (defBody d.st)
/-- the whole text -/
structure Txt where
  P : Tx
  G : Ck
  ds : List Dn
  gi : List (Str × Int)
def exmF (isa : Nat → Nat → Bool) (xc : List Str) : List He.Fa := (xc.zipIdx).flatMap fun p => (xc.zipIdx).map fun q => .exm p.1 q.1 (isa p.2 q.2)
def Txt.fa (t : Txt) : List He.Fa := t.G.nm.map .glo ++ t.G.fr.map .free ++ t.gi.map (fun p => .int p.1 p.2) ++ t.G.xc.map .glo ++ (t.G.xp.filterMap fun c => t.G.xc[c]?.map .exc) ++ exmF t.P.isa t.G.xc
def Txt.fn (t : Txt) : List He.DefD := t.ds.map Dn.dd
def Txt.cs (t : Txt) (K : PySem.W.Frag) : Cst := fun c => (t.G.xc[c]?).map fun x => He.ga K x
/-- the built-in types by their names -/
def tyOf (x : Str) : Option String := if x = ("int" : Str) then some "int" else if x = ("str" : Str) then some "str" else if x = ("bool" : Str) then some "bool" else if x = ("tuple" : Str) then some "tuple" else if x = ("list" : Str) then some "list" else if x = ("dict" : Str) then some "dict" else none
theorem tyOf_ok {x : Str} {n : String} (h : tyOf x = some n) : bootBuiltins x = some (.type n) ∧ x ≠ "__name__" := by
  unfold tyOf at h
  split at h
  · rename_i e; subst e; cases h; exact ⟨by decide +kernel, by decide +kernel⟩
  split at h
  · rename_i e; subst e; cases h; exact ⟨by decide +kernel, by decide +kernel⟩
  split at h
  · rename_i e; subst e; cases h; exact ⟨by decide +kernel, by decide +kernel⟩
  split at h
  · rename_i e; subst e; cases h; exact ⟨by decide +kernel, by decide +kernel⟩
  split at h
  · rename_i e; subst e; cases h; exact ⟨by decide +kernel, by decide +kernel⟩
  split at h
  · rename_i e; subst e; cases h; exact ⟨by decide +kernel, by decide +kernel⟩
  · cases h
/-- the module's constants: its ints, the built-in types -/
def globF (gi : List (Str × Int)) (fr : List Str) (x : Str) : Option D := match gi.lookup x with
  | some i => some (.int i)
  | none => if x ∈ fr then (tyOf x).map .ty else none
structure Txt.Ok (t : Txt) : Prop where
  nm : t.G.nm = t.ds.map (·.x)
  len : t.P.fns.length = t.ds.length
  chk : ∀ (f : Nat) (fn : Fn) (d : Dn), t.P.fns[f]? = some fn → t.ds[f]? = some d → chkD t.G fn d = true
  glob : t.P.glob = globF t.gi t.G.fr
def Txt.okB (t : Txt) : Bool := decide (t.G.nm = t.ds.map (·.x)) && (t.P.fns.length == t.ds.length) && (t.P.fns.zip t.ds).all fun p => chkD t.G p.1 p.2
theorem Txt.ok_by {t : Txt} (h : t.okB = true) (hg : t.P.glob = globF t.gi t.G.fr) : t.Ok := by
  unfold Txt.okB at h
  simp only [Bool.and_eq_true, decide_eq_true_eq, beq_iff_eq] at h
  obtain ⟨⟨h1, h2⟩, h3⟩ := h
  refine ⟨h1, h2, fun f fn d e1 e2 => ?_, hg⟩
  have : (fn, d) ∈ t.P.fns.zip t.ds := List.mem_of_getElem? (i := f) (by rw [List.getElem?_zip_eq_some]; exact ⟨e1, e2⟩)
  exact List.all_eq_true.mp h3 _ this

section
variable {t : Txt} {K : PySem.W.Frag} {h : Heap} {mg : Str → Option Value} {prog : Program} {w : World} {base : Heap}
theorem says_mem {fa : List He.Fa} {fn : List He.DefD} (c : He.SaysD fa fn K) {f : He.Fa} (hf : f ∈ fa) : f.ok K = true := by
  obtain ⟨i, hi⟩ := List.getElem?_of_mem hf
  exact c.fact i hi
theorem def_of (c : He.SaysD t.fa t.fn K) {f : Nat} {d : Dn} (hd : t.ds[f]? = some d) : ∃ fd, FunD K d.x d.x (defArgs d.st) (defBody d.st) (defScope d.st) [] [] (He.ga K d.x) fd := by
  have e : t.fn[f]? = some d.dd := by unfold Txt.fn; rw [List.getElem?_map, hd]; rfl
  exact c.def_ f e
theorem binds_of {fn : Fn} {d : Dn} {fd : FuncData} (hc : chkD t.G fn d = true) (F : FunD K d.x d.x (defArgs d.st) (defBody d.st) (defScope d.st) [] [] (He.ga K d.x) fd) : ∀ (kV doc pm : Value) (an : Option Addr) (cdv ct : Value) (us : List Value), us.length = (d.N.take fn.np).length →
    bindArgs (PySem.W.fnOf d.x d.x (defArgs d.st) (defBody d.st) (defScope d.st) .none kV doc pm an cdv ct) ⟨us, []⟩ = pure ((d.N.take fn.np).zip us) := by
  unfold chkD at hc
  simp only [Bool.and_eq_true, decide_eq_true_eq] at hc
  obtain ⟨⟨⟨⟨h1, h2⟩, h3⟩, h4⟩, h5⟩ := hc
  have S := scB_ok h4
  unfold plainArgs at h1
  simp only [Bool.and_eq_true, decide_eq_true_eq, List.isEmpty_iff, Option.isNone_iff_eq_none] at h1
  obtain ⟨⟨⟨⟨a1, a2⟩, a3⟩, a4⟩, a5⟩ := h1
  intro kV doc pm an cdv ct us hl
  exact bind_plain a1 a2 a3 a4 a5 rfl (List.Nodup.sublist (List.take_sublist _ _) S.nd) hl

theorem pad_eq {N : List Str} {vs : List V} {n np : Nat} (hN : N.length = n) (hv : vs.length = np) : L2.start N vs = vs.map some ++ List.replicate (n - np) none := by
  unfold L2.start
  rw [hN, hv]
/-- EVERY DEF KEEPS WHAT THE EVALUATOR PROMISES -/
theorem fn_all (T : t.Ok) (c : He.SaysD t.fa t.fn K) (X : K.In h) (Gs : h.Ns mainGlobals mg) : ∀ (k f : Nat) (fn : Fn) (d : Dn) (fd : FuncData), t.P.fns[f]? = some fn → t.ds[f]? = some d → FunD K d.x d.x (defArgs d.st) (defBody d.st) (defScope d.st) [] [] (He.ga K d.x) fd →
    FnOk prog w K mg base (L2.CX prog w) k (He.ga K d.x) fd (d.N.take fn.np) (spF t.P k f K (t.cs K) (d.N.take fn.np).length)
  | 0, f, fn, d, fd, hf, hd, FD => by
    refine ⟨fun vs H Q E q => spF_len q, fun A outer s H args us vs Q E hr he hb hv hs => ?_⟩
    obtain ⟨F, ts, _, _, q⟩ := hs
    exact q.elim
  | k + 1, f, fn, d, fd, hf, hd, FD => by
    have hc := T.chk f fn d hf hd
    have hc0 := hc
    unfold chkD at hc
    simp only [Bool.and_eq_true, decide_eq_true_eq] at hc
    obtain ⟨⟨⟨⟨h1, h2⟩, h3⟩, h4⟩, h5⟩ := hc
    have S := scB_ok h4
    have np : (d.N.take fn.np).length = fn.np := by rw [List.length_take]; omega
    refine FD.ok S (fun vs H Q E q => spF_len q) fun cdv A outer s H vs Q E hr hsp => ?_
    obtain ⟨F, ts, lts, rel, q⟩ := hsp
    have lv : vs.length = fn.np := by
      have := rel.len
      rw [List.length_map, List.length_map] at this
      omega
    have g : GoodS t.P t.G k (t.cs K) (fun cl d _ H' => E cl d H') d.N (defScope d.st) (cxOf (L2.CX prog w) prog w K mg base d.N d.x (defScope d.st) (He.ga K d.x) cdv A outer s H E) :=
      { hN := rfl, hsc := rfl, nd := S.nd, calm := rfl, room := hr, takes := takes_of rfl rfl rfl rfl, pass := passes_of rfl, knd := S.kind, stk := rfl, frm := rfl, fnl := fun _ _ => .inl rfl
        fns := fun f' x hx => by
          rw [T.nm, List.getElem?_map] at hx
          cases e : t.ds[f']? with
          | none => rw [e] at hx; cases hx
          | some d' =>
            rw [e] at hx
            have hx : d'.x = x := Option.some.inj hx
            subst hx
            have hlt : f' < t.P.fns.length := by rw [T.len]; exact (List.getElem?_eq_some_iff.mp e).1
            obtain ⟨fd', F'⟩ := def_of c e
            have e2 : t.P.fns[f']? = some t.P.fns[f'] := List.getElem?_eq_getElem hlt
            have hm : mg d'.x = some (.ref (He.ga K d'.x)) := He.glo_ok X Gs (says_mem c (f := .glo d'.x) (by
              unfold Txt.fa
              simp only [List.mem_append, List.mem_map]
              exact .inl (.inl (.inl (.inl (.inl ⟨d'.x, by rw [T.nm]; exact List.mem_map.mpr ⟨d', List.mem_of_getElem? e, rfl⟩, rfl⟩))))))
            have hc' := T.chk f' _ d' e2 e
            refine ⟨He.ga K d'.x, fd', d'.N.take (t.P.fns[f']).np, hm, F'.kp, F'.bindsN (binds_of hc' F'), fn_all T c X Gs k f' _ d' fd' e2 e F', fun fn' e3 => ?_⟩
            rw [e2] at e3
            cases e3
            unfold chkD at hc'
            simp only [Bool.and_eq_true, decide_eq_true_eq] at hc'
            rw [List.length_take]
            omega
        free := fun x hx => He.free_ok X Gs (says_mem c (f := .free x) (by
          unfold Txt.fa
          simp only [List.mem_append, List.mem_map]
          exact .inl (.inl (.inl (.inl (.inr ⟨x, hx, rfl⟩))))))
        glob := fun x dv hx _ => by
          rw [T.glob] at hx
          unfold globF at hx
          split at hx
          · rename_i i e
            cases hx
            obtain ⟨tk, e2⟩ := He.int_ok X Gs (says_mem c (f := .int x i) (by
              unfold Txt.fa
              simp only [List.mem_append, List.mem_map]
              exact .inl (.inl (.inl (.inr ⟨(x, i), lookup_memS e, rfl⟩)))))
            exact ⟨_, .int i, .inl e2, ⟨tk, rfl⟩, fun _ => .int i⟩
          · split at hx
            · rename_i hfr
              obtain ⟨n, e, rfl⟩ := Option.map_eq_some_iff.mp hx
              obtain ⟨b1, b2⟩ := tyOf_ok e
              have hm := He.free_ok X Gs (says_mem c (f := .free x) (by
                unfold Txt.fa
                simp only [List.mem_append, List.mem_map]
                exact .inl (.inl (.inl (.inl (.inr ⟨x, hfr, rfl⟩))))))
              exact ⟨_, .ty n, .inr ⟨hm, b1⟩, rfl, fun _ => .ty n⟩
            · cases hx
        cls := fun c' x hx => by
          refine ⟨He.ga K x, by unfold Txt.cs; rw [hx]; rfl, He.glo_ok X Gs (says_mem c (f := .glo x) (by
            unfold Txt.fa
            simp only [List.mem_append, List.mem_map]
            exact .inl (.inl (.inr ⟨x, List.mem_of_getElem? hx, rfl⟩))))⟩
        mkx := fun c' x a hx hp ha => by
          have ea : a = He.ga K x := by
            unfold Txt.cs at ha
            rw [hx] at ha
            exact (Option.some.inj ha).symm
          subst ea
          obtain ⟨q1, q2, q3, q4⟩ := He.exc_ok (says_mem c (f := .exc x) (by
            unfold Txt.fa
            simp only [List.mem_append, List.mem_filterMap]
            exact .inl (.inr ⟨c', hp, by rw [hx]; rfl⟩)))
          exact ⟨q2, raises_own q3 q4, _, _, _, _, PySem.F.excBase_ValueError, q1⟩
        exm := fun c1 c2 a1 a2 x2 ha1 hx2 ha2 => by
          unfold Txt.cs at ha1 ha2
          rw [hx2] at ha2
          obtain ⟨x1, hx1, rfl⟩ := Option.map_eq_some_iff.mp ha1
          have e2 : He.ga K x2 = a2 := Option.some.inj ha2
          subst e2
          exact He.exm_ok (says_mem c (f := .exm x1 x2 (t.P.isa c1 c2)) (by
            unfold Txt.fa exmF
            simp only [List.mem_append, List.mem_flatMap, List.mem_map]
            exact .inr ⟨(x1, c1), by rw [List.mem_zipIdx_iff_getElem?]; exact hx1, (x2, c2), by rw [List.mem_zipIdx_iff_getElem?]; exact hx2, rfl⟩)) }
    refine ⟨tSPs t.P k (fun cl d _ H' => E cl d H') K (t.cs K) fn.body.asg fn.body, snd_Ss fn.body d.N (defScope d.st) _ _ _ _ g h5 fun i hi => hi, ?_⟩
    rw [pad_eq h2 lv]
    have lt : (ts.map some).length = (vs.map some).length := rel.len
    refine ⟨F, ts.map some ++ List.replicate (fn.n - fn.np) none, rel.pad, ?_⟩
    have io : t.P.io f = fn.io := by unfold Tx.io; rw [hf]
    unfold Tx.call at q
    rw [hf, io] at q
    simp only at q
    unfold runF at q
    split at q
    · rename_i cnd
      have ap := cnd.2
      have down : ∀ {F' H' : Hp} {env' : AM.Env} {σ' : L2.St}, Mv K (t.cs K) F H (ts.map some ++ List.replicate (fn.n - fn.np) none) (vs.map some ++ List.replicate (fn.n - fn.np) none) fn.body.asg F' H' env' σ' →
          Ext F H (Own (ts.map some) (vs.map some)) F' H' (Own (spreadE (d.N.take fn.np).length fn.io (outsOf fn.io env')) (vs.map some)) ∧ Rel K (t.cs K) F' H' (spreadE (d.N.take fn.np).length fn.io (outsOf fn.io env')) (vs.map some) ∧
          ∀ p, Own (spreadE (d.N.take fn.np).length fn.io (outsOf fn.io env')) (vs.map some) p → Own env' σ' p := fun {F' H' env' σ'} m => by
        obtain ⟨r2, o2⟩ := out_state (io := fn.io) (n := (d.N.take fn.np).length) (by rw [np, lv]) ap m.rel m.same
        exact ⟨⟨m.ext.fr, fun p o e n => m.ext.keep p o e fun z => n ((own_pad lt).mp z), fun p a b => (m.ext.new p a b).imp (own_pad lt).mp id, fun p z => (m.ext.own p (o2 p z)).imp (own_pad lt).mp id⟩, r2, o2⟩
      unfold Fs
      show Fit (evSs (clOf t.P k) t.P.isa fn.body (ts.map some ++ List.replicate (fn.n - fn.np) none)) _ _
      cases e : evSs ⟨t.P.call k, t.P.io, t.P.glob⟩ t.P.isa fn.body (ts.map some ++ List.replicate (fn.n - fn.np) none) with
      | ok fl env' =>
        rw [e] at q
        cases fl with
        | nx =>
          intro σ' F' H' m
          obtain ⟨x1, r1, o1⟩ := down m
          exact q .non F' H' ⟨x1, r1, .non, fun z => by cases z⟩
        | rt tv =>
          intro v σ' F' H' m rt fr
          obtain ⟨x1, r1, o1⟩ := down m
          exact q v F' H' ⟨x1, r1, rt, fun ow p ev => ⟨fun z => (fr ow p ev).1 (o1 p z), (fr ow p ev).2.imp (own_pad lt).mp id⟩⟩
        | bk => exact q.elim
        | ct => exact q.elim
      | ex x env' =>
        rw [e] at q
        intro cl dd σ' F' H' m rx
        obtain ⟨x1, r1, o1⟩ := down m
        exact q cl dd F' H' x1 r1 rx
      | no =>
        rw [e] at q
        exact q.elim
    · exact q.elim
end
end AM

set_option maxHeartbeats 8000000
/-! the law's end: what the evaluator answers is what the row asks -/
namespace AM
open PySem PySem.Spec PyProof.Rows L2
theorem repInts {K : PySem.W.Frag} {cs : Cst} {F : Hp} : ∀ ns : List Int, RepDs K cs F (ns.map D.int) (ns.map V.int)
  | [] => .nil
  | n :: ns => .cons (.int n) (repInts ns)
/-- the law's promise, by the evaluator's answer -/
theorem sp_law {P : Tx} {k f : Nat} {K : PySem.W.Frag} {cs : Cst} {np : Nat} (h1 : np = 1) (h : ∀ ns : List Int, ns.length ≤ 63 → ∃ outs, P.call k f [.d (.lst (ns.map .int))] = .ok (.d (.bl true)) outs) (H : Hp) (a : Addr) (ns : List Int) (hn : ns.length ≤ 63) (hl : LstAt K H a (ns.map V.int)) :
    spF P k f K cs np [.ref a] H (fun v _ => v = .bl true) fun _ _ _ => False := by
  subst h1
  obtain ⟨outs, e⟩ := h ns hn
  refine ⟨H, [.d (.lst (ns.map .int))], rfl, ⟨rfl, ⟨fun _ _ z => z, fun _ _ z => z⟩, fun i t e => ?_, fun i j t u p e1 e2 o1 _ _ _ => ?_⟩, ?_⟩
  · cases i with
    | zero =>
      cases e
      exact ⟨_, rfl, .lst hl (repInts ns)⟩
    | succ i => simp at e
  · cases i with
    | zero => cases e1; cases o1
    | succ i => simp at e1
  · rw [e]
    intro v F' H' p
    cases (show RepD K cs F' (.bl true) v from p.rep)
    rfl
theorem cx_none {P : Program} {w : World} (H : Hp) (s : Shared) (e : Value) (s' : Shared) (h : L2.CX P w [] H s (fun _ _ _ => False) e s') : False := by
  obtain ⟨_, _, _, _, _, _, _, _, _, _, _, _, z⟩ := h
  exact z
/-- from the head's facts to the walk -/
theorem walk_am {l : PySem.W.OpenLaw} {k : Nat} {q : Program} {loose : List Str} {XP : (Str → Option Value) → Heap → Prop} {d : DefRec} {t : Txt} {f : Nat} {fn : Fn} {dn : Dn} {x : Str}
    (hn : l.most = some 63) (hdf : d.params.defaults = []) (hr : Room k callerA) (T : t.Ok) (hf : t.P.fns[f]? = some fn) (hd : t.ds[f]? = some dn) (hx : dn.x = d.name) (h1 : dn.N.take fn.np = [x])
    (h : ∀ ns : List Int, ns.length ≤ 63 → ∃ outs, t.P.call k f [.d (.lst (ns.map .int))] = .ok (.d (.bl true)) outs) :
    PySem.W.WalkO q loose XP (fun _ h => ∃ K : PySem.W.Frag, K.In h ∧ He.SaysD t.fa t.fn K) l.row.toRowW d [] (fun f vs => PySem.call f vs) := by
  refine Att.attach_call hn hdf fun w s₀ s₁ mg mb fa o pm cd doc a vs ns G Y ho hd' hcd hmg hobj hints hlen hg => ?_
  obtain ⟨K, KX, c⟩ := Y
  obtain ⟨fd, FD⟩ := def_of c hd
  have ea : fa = He.ga K dn.x := by
    have hm := He.glo_ok KX G.T.g (says_mem c (f := .glo dn.x) (by
      unfold Txt.fa
      simp only [List.mem_append, List.mem_map]
      exact .inl (.inl (.inl (.inl (.inl ⟨dn.x, by rw [T.nm]; exact List.mem_map.mpr ⟨dn, List.mem_of_getElem? hd, rfl⟩, rfl⟩))))))
    rw [hx, hmg] at hm
    cases hm
    rw [hx]
  subst ea
  have b := binds_of (T.chk f fn dn hf hd) FD
  rw [h1] at b
  have hF : ∀ base : Heap, K.In base → base.Ns mainGlobals mg → FnOk l.prog w K mg base (L2.CX l.prog w) k (He.ga K dn.x) fd [x] (spF t.P k f K (t.cs K) 1) := fun base hb hbn => by
    have := fn_all (prog := l.prog) (w := w) (base := base) T c hb hbn k f fn dn fd hf hd FD
    rw [h1] at this
    exact this
  refine law_call KX G.T.g G.T.b G.T.builtins G.T.nolimit hg hobj hints (Nat.le_trans hlen (by decide)) hr hF (fun s u => FD.bindsA (ps := [x]) b s [u] rfl) (fun H hO hS => sp_law rfl h H a ns hlen ?_) fun H e s' => cx_none H s₁ e s'
  rcases hS with hS | ⟨oo, its, n, hk, hc, hdd, hs, hz, r⟩
  · exact .inl hS
  · right
    have e := KX a oo hk
    rw [hobj] at e
    have e := Option.some.inj e
    subst e
    exact ⟨_, _, hk, by cases hs; exact hz, by cases hs; exact r⟩
end AM

set_option maxHeartbeats 8000000
/-! the evaluator by simp; the dice -/
namespace AM
open PySem
theorem bindR_ok {α β : Type} (a : α) (env : Env) (f : α → Env → R β) : (R.ok a env).bind f = f a env := (rfl)
theorem bindR_ex {α β : Type} (x : X) (env : Env) (f : α → Env → R β) : (R.ex x env : R α).bind f = .ex x env := (rfl)
theorem bl_ok (b : Bool) (env : Env) : (R.ok (T.d (.bl b)) env).bl = .ok b env := (rfl)
theorem bl_ex (x : X) (env : Env) : (R.ex x env : R T).bl = .ex x env := (rfl)
theorem snap_d (d : D) : (T.d d).snap = d := (rfl)
theorem snap_l (d : List D) : (T.l d).snap = .lst d := (rfl)
def fin (io : List Nat) (r : R Fl) : R T := match r with
  | .ok .nx env => .ok (.d .non) (outsOf io env)
  | .ok (.rt t) env => .ok t (outsOf io env)
  | .ex x env => .ex x (outsOf io env)
  | _ => .no
theorem runF_eq {C : Cl} {is : Nat → Nat → Bool} {fn : Fn} {ts : List T} (h : ts.length = fn.np) (ha : apart fn.io fn.body.asg = true) : runF C is fn ts = fin fn.io (evSs C is fn.body (ts.map some ++ List.replicate (fn.n - fn.np) none)) := by
  unfold runF
  rw [if_pos ⟨h, ha⟩]
  rfl
theorem fin_rt {io : List Nat} {t : T} {env : Env} : fin io (.ok (.rt t) env) = .ok t (outsOf io env) := (rfl)
theorem fin_nx {io : List Nat} {env : Env} : fin io (.ok .nx env) = .ok (.d .non) (outsOf io env) := (rfl)
theorem fin_ex {io : List Nat} {x : X} {env : Env} : fin io (.ex x env) = .ex x (outsOf io env) := (rfl)
/-! ### prims -/
theorem p_add (i j : Int) : primF (.bin .Add) [.int i, .int j] = some (.d (.int (i + j))) := (rfl)
theorem p_sub (i j : Int) : primF (.bin .Sub) [.int i, .int j] = some (.d (.int (i - j))) := (rfl)
theorem p_mul (i j : Int) : primF (.bin .Mult) [.int i, .int j] = if (-(2 ^ 64) < i ∧ i < 2 ^ 64) ∨ (-(2 ^ 64) < j ∧ j < 2 ^ 64) then some (.d (.int (i * j))) else none := (rfl)
theorem p_mod (i j : Int) : primF (.bin .Mod) [.int i, .int j] = if 0 < j then some (.d (.int (i % j))) else none := (rfl)
theorem p_div (i j : Int) : primF (.bin .FloorDiv) [.int i, .int j] = if 0 < j ∧ j < 1073741824 then some (.d (.int (i / j))) else none := (rfl)
theorem p_pow (i j : Int) : primF (.bin .Pow) [.int i, .int j] = if 0 ≤ j ∧ j ≤ 1000000 ∧ i.natAbs < 2 ^ 64 then some (.d (.int (i ^ j.toNat))) else none := (rfl)
theorem p_addT (a b : List D) : primF (.bin .Add) [.tup a, .tup b] = if a.length + b.length ≤ sizeLine then some (.d (.tup (a ++ b))) else none := (rfl)
theorem p_addL (a b : List D) : primF (.bin .Add) [.lst a, .lst b] = if a.length + b.length ≤ sizeLine then some (.l (a ++ b)) else none := (rfl)
theorem p_mulT (a : List D) (k : Int) : primF (.bin .Mult) [.tup a, .int k] = if a ≠ [] ∧ 2 ≤ k ∧ k ≤ 1000 ∧ a.length ≤ 1000 then some (.d (.tup (List.replicate k.toNat a).flatten)) else none := (rfl)
theorem p_mulL (a : List D) (k : Int) : primF (.bin .Mult) [.lst a, .int k] = if -(2 ^ 63) ≤ k ∧ k < 2 ^ 63 ∧ a.length * k.toNat ≤ sizeLine then some (.l (List.replicate k.toNat a).flatten) else none := (rfl)
theorem p_lt (i j : Int) : primF (.cmp .Lt) [.int i, .int j] = some (.d (.bl (decide (i < j)))) := (rfl)
theorem p_le (i j : Int) : primF (.cmp .LtE) [.int i, .int j] = some (.d (.bl (decide (i ≤ j)))) := (rfl)
theorem p_gt (i j : Int) : primF (.cmp .Gt) [.int i, .int j] = some (.d (.bl (decide (j < i)))) := (rfl)
theorem p_ge (i j : Int) : primF (.cmp .GtE) [.int i, .int j] = some (.d (.bl (decide (j ≤ i)))) := (rfl)
theorem p_eq (i j : Int) : primF (.cmp .Eq) [.int i, .int j] = some (.d (.bl (decide (i = j)))) := (rfl)
theorem p_ne (i j : Int) : primF (.cmp .NotEq) [.int i, .int j] = some (.d (.bl (!decide (i = j)))) := (rfl)
theorem sh_str {x : Str} (h : PyData.strOk x = true) : SeqAt.shaped (D.toP (.str x)) = true := by simp [SeqAt.shaped, D.toP, PyData.canLay0, PyData.depth, h]
theorem eqF_by {d e : D} (h1 : SeqAt.shaped d.toP = true) (h2 : SeqAt.shaped e.toP = true) : eqF d e = some (PyData.eqv d.toP e.toP) := by
  unfold eqF
  rw [h1, h2]
  rfl
theorem eqv_str (i j : Str) : PyData.eqv (D.toP (.str i)) (D.toP (.str j)) = decide (i = j) := by
  by_cases e : i = j
  · subst e; simp [PyData.eqv, D.toP]
  · simp [PyData.eqv, D.toP, e]
theorem p_eqX {d e : D} : primF (.cmp .Eq) [d, e] = (eqF d e).map fun b => .d (.bl b) := (rfl)
theorem p_neX {d e : D} : primF (.cmp .NotEq) [d, e] = (eqF d e).map fun b => .d (.bl (!b)) := by
  show ((eqF d e).map (!·)).map (fun b => T.d (D.bl b)) = _
  rw [Option.map_map]
  rfl
theorem p_eqS (i j : Str) (h1 : PyData.strOk i = true) (h2 : PyData.strOk j = true) : primF (.cmp .Eq) [.str i, .str j] = some (.d (.bl (decide (i = j)))) := by
  rw [p_eqX, eqF_by (sh_str h1) (sh_str h2), eqv_str]
  rfl
theorem p_neS (i j : Str) (h1 : PyData.strOk i = true) (h2 : PyData.strOk j = true) : primF (.cmp .NotEq) [.str i, .str j] = some (.d (.bl (!decide (i = j)))) := by
  rw [p_neX, eqF_by (sh_str h1) (sh_str h2), eqv_str]
  rfl
theorem p_is (d : D) : primF (.cmp .Is) [d, .non] = some (.d (.bl d.isNon)) := by cases d <;> rfl
theorem p_isn (d : D) : primF (.cmp .IsNot) [d, .non] = some (.d (.bl (!d.isNon))) := by cases d <;> rfl
theorem p_ixL (a : List D) (i : Int) : primF .ix [.lst a, .int i] = (L2.atI a i).map .d := (rfl)
theorem p_ixT (a : List D) (i : Int) : primF .ix [.tup a, .int i] = (L2.atI a i).map .d := (rfl)
theorem p_neg (i : Int) : primF .neg [.int i] = some (.d (.int (-i))) := (rfl)
theorem p_tup (ds : List D) : primF .tup ds = if ds.length ≤ sizeLine then some (.d (.tup ds)) else none := (rfl)
theorem p_lst (ds : List D) : primF .lst ds = if ds.length ≤ sizeLine then some (.l ds) else none := (rfl)
theorem p_dic : primF .dic [] = some (.d (.dic [])) := (rfl)
theorem p_lenL (xs : List D) : primF (.bi .len) [.lst xs] = some (.d (.int xs.length)) := (rfl)
theorem p_lenT (xs : List D) : primF (.bi .len) [.tup xs] = some (.d (.int xs.length)) := (rfl)
theorem p_listL (xs : List D) : primF (.bi .list) [.lst xs] = some (.l xs) := (rfl)
theorem p_listT (xs : List D) : primF (.bi .list) [.tup xs] = some (.l xs) := (rfl)
theorem p_tupL (xs : List D) : primF (.bi .tuple) [.lst xs] = some (.d (.tup xs)) := (rfl)
theorem p_tupT (xs : List D) : primF (.bi .tuple) [.tup xs] = some (.d (.tup xs)) := (rfl)
theorem p_abs (i : Int) : primF (.bi .abs) [.int i] = some (.d (.int (if i < 0 then -i else i))) := (rfl)
theorem p_int (i : Int) : primF (.bi .int) [.int i] = some (.d (.int i)) := (rfl)
theorem p_intB (b : Bool) : primF (.bi .int) [.bl b] = some (.d (.int (if b then 1 else 0))) := (rfl)
theorem p_min (i j : Int) : primF (.bi .min) [.int i, .int j] = some (.d (.int (if j < i then j else i))) := (rfl)
theorem p_max (i j : Int) : primF (.bi .max) [.int i, .int j] = some (.d (.int (if j > i then j else i))) := (rfl)
theorem p_pow18 : primF (.bin .Pow) [.int 10, .int 18] = some (.d (.int 1000000000000000000)) := by
  rw [p_pow, if_pos (by decide)]
  rfl
theorem small_le {n : Nat} (h : n ≤ 1000000) : n ≤ sizeLine := Nat.le_trans h (by decide)
def diceFn : Fn := ⟨1, 2, [],
  (.cons (.ret (.prim .lst (.cons (.lc [("_law_cell", 1)] (.name 1) (.seq (.sl (.vw 0) .no (.yes (.cst (.int 63))))) .no (.prim (.bi .abs) (.cons (.prim (.bi .int) (.cons (.vw 1) .nil)) .nil))) (.cons (.cst (.int 0)) (.cons (.cst (.int 0)) (.cons (.cst (.int 1)) (.cons (.cst (.int 0)) .nil))))))) (.nil))⟩
def drawFn : Fn := ⟨2, 5, [0],
  (.cons (.ife (.and (.prim (.cmp .Eq) (.cons (.prim .ix (.cons (.vw 0) (.cons (.cst (.int 2)) .nil))) (.cons (.cst (.int 0)) .nil))) (.one (.prim (.cmp .Lt) (.cons (.prim .ix (.cons (.vw 0) (.cons (.cst (.int 1)) .nil))) (.cons (.prim (.bi .len) (.cons (.prim .ix (.cons (.vw 0) (.cons (.cst (.int 0)) .nil))) .nil)) .nil)))))
  (.cons (.set 3 (.prim .ix (.cons (.prim .ix (.cons (.vw 0) (.cons (.cst (.int 0)) .nil))) (.cons (.prim .ix (.cons (.vw 0) (.cons (.cst (.int 1)) .nil))) .nil)))) (.cons (.setIx 0 (.cst (.int 1)) (.prim (.bin .Add) (.cons (.prim .ix (.cons (.vw 0) (.cons (.cst (.int 1)) .nil))) (.cons (.cst (.int 1)) .nil)))) (.cons (.ife (.prim (.cmp .GtE) (.cons (.vw 3) (.cons (.prim (.bin .Pow) (.cons (.cst (.int 10)) (.cons (.cst (.int 18)) .nil))) .nil)))
    (.cons (.setIx 0 (.cst (.int 2)) (.var 3)) (.nil))
    (.cons (.setIx 0 (.cst (.int 3)) (.prim (.bin .Mod) (.cons (.prim (.bi .int) (.cons (.prim (.bin .Add) (.cons (.prim (.bin .Add) (.cons (.prim (.bin .Mult) (.cons (.prim .ix (.cons (.vw 0) (.cons (.cst (.int 3)) .nil))) (.cons (.cst (.int 69621)) .nil))) (.cons (.prim (.bin .Mult) (.cons (.vw 3) (.cons (.cst (.int 40692)) .nil))) .nil))) (.cons (.prim .ix (.cons (.vw 0) (.cons (.cst (.int 1)) .nil))) .nil))) .nil)) (.cons (.cst (.int 2147483647)) .nil)))) (.nil))) (.nil))))
  (.nil)) (.cons (.ife (.prim (.cmp .Gt) (.cons (.prim .ix (.cons (.vw 0) (.cons (.cst (.int 2)) .nil))) (.cons (.cst (.int 0)) .nil)))
  (.cons (.set 4 (.prim (.bin .Mod) (.cons (.prim (.bi .int) (.cons (.prim .ix (.cons (.vw 0) (.cons (.cst (.int 2)) .nil))) .nil)) (.cons (.vw 1) .nil)))) (.cons (.setIx 0 (.cst (.int 2)) (.prim (.bin .FloorDiv) (.cons (.prim (.bi .int) (.cons (.prim .ix (.cons (.vw 0) (.cons (.cst (.int 2)) .nil))) .nil)) (.cons (.vw 1) .nil)))) (.cons (.ret (.var 4)) (.nil))))
  (.nil)) (.cons (.setIx 0 (.cst (.int 4)) (.prim (.bin .Add) (.cons (.prim .ix (.cons (.vw 0) (.cons (.cst (.int 4)) .nil))) (.cons (.cst (.int 1)) .nil)))) (.cons (.setIx 0 (.cst (.int 3)) (.prim (.bin .Mod) (.cons (.prim (.bi .int) (.cons (.prim (.bin .Add) (.cons (.prim (.bin .Add) (.cons (.prim (.bin .Mult) (.cons (.prim .ix (.cons (.vw 0) (.cons (.cst (.int 3)) .nil))) (.cons (.cst (.int 48271)) .nil))) (.cons (.prim (.bin .Mult) (.cons (.prim .ix (.cons (.vw 0) (.cons (.cst (.int 4)) .nil))) (.cons (.cst (.int 7919)) .nil))) .nil))) (.cons (.cst (.int 1)) .nil))) .nil)) (.cons (.cst (.int 2147483647)) .nil)))) (.cons (.set 2 (.prim (.bin .Mod) (.cons (.prim (.bi .int) (.cons (.prim (.bin .Mult) (.cons (.prim .ix (.cons (.vw 0) (.cons (.cst (.int 3)) .nil))) (.cons (.prim (.bin .Add) (.cons (.prim (.bin .FloorDiv) (.cons (.prim .ix (.cons (.vw 0) (.cons (.cst (.int 3)) .nil))) (.cons (.cst (.int 1009)) .nil))) (.cons (.cst (.int 69623)) .nil))) .nil))) .nil)) (.cons (.cst (.int 2147483399)) .nil)))) (.cons (.set 2 (.prim (.bin .Mod) (.cons (.prim (.bi .int) (.cons (.prim (.bin .Mult) (.cons (.vw 2) (.cons (.prim (.bin .Add) (.cons (.prim (.bin .FloorDiv) (.cons (.vw 2) (.cons (.cst (.int 2003)) .nil))) (.cons (.cst (.int 40693)) .nil))) .nil))) .nil)) (.cons (.cst (.int 2147483563)) .nil)))) (.cons (.ret (.prim (.bin .Mod) (.cons (.prim (.bi .int) (.cons (.prim (.bin .FloorDiv) (.cons (.vw 2) (.cons (.cst (.int 16)) .nil))) .nil)) (.cons (.vw 1) .nil)))) (.nil))))))))⟩

theorem at0 (a b c d e : D) : L2.atI [a, b, c, d, e] (0 : Int) = some a := (rfl)
theorem at1 (a b c d e : D) : L2.atI [a, b, c, d, e] (1 : Int) = some b := (rfl)
theorem at2 (a b c d e : D) : L2.atI [a, b, c, d, e] (2 : Int) = some c := (rfl)
theorem at3 (a b c d e : D) : L2.atI [a, b, c, d, e] (3 : Int) = some d := (rfl)
theorem at4 (a b c d e : D) : L2.atI [a, b, c, d, e] (4 : Int) = some e := (rfl)
theorem put1 (a b c d e x : D) (r : Env) : putR 0 (.int 1) x (some (.l [a, b, c, d, e]) :: r) = .ok .nx (some (.l [a, x, c, d, e]) :: r) := (rfl)
theorem put2 (a b c d e x : D) (r : Env) : putR 0 (.int 2) x (some (.l [a, b, c, d, e]) :: r) = .ok .nx (some (.l [a, b, x, d, e]) :: r) := (rfl)
theorem put3 (a b c d e x : D) (r : Env) : putR 0 (.int 3) x (some (.l [a, b, c, d, e]) :: r) = .ok .nx (some (.l [a, b, c, x, e]) :: r) := (rfl)
theorem put4 (a b c d e x : D) (r : Env) : putR 0 (.int 4) x (some (.l [a, b, c, d, e]) :: r) = .ok .nx (some (.l [a, b, c, d, x]) :: r) := (rfl)
theorem evSs_nx {C : Cl} {is : Nat → Nat → Bool} {s : S} {ss : Ss} {env env' : Env} (h : evS C is s env = .ok .nx env') : evSs C is (.cons s ss) env = evSs C is ss env' := by
  simp only [evSs, h, bindR_ok]
theorem evSs_rt {C : Cl} {is : Nat → Nat → Bool} {s : S} {ss : Ss} {env env' : Env} {t : T} (h : evS C is s env = .ok (.rt t) env') : evSs C is (.cons s ss) env = .ok (.rt t) env' := by
  simp only [evSs, h, bindR_ok]
theorem evSs_ex {C : Cl} {is : Nat → Nat → Bool} {s : S} {ss : Ss} {env env' : Env} {t : X} (h : evS C is s env = .ex t env') : evSs C is (.cons s ss) env = .ex t env' := by
  simp only [evSs, h, bindR_ex]
def Ss.hd : Ss → S
  | .cons s _ => s
  | .nil => .pass
def Ss.tl : Ss → Ss
  | .cons _ r => r
  | .nil => .nil
theorem tail_big (C : Cl) (is : Nat → Nat → Bool) (p b s c n : Int) (cells : List D) (x : Option T) (h1 : 0 < b) (hn : 0 < n) (hm : n < 1073741824) :
    ∃ env', evSs C is drawFn.body.tl [some (.l [.lst cells, .int p, .int b, .int s, .int c]), some (.d (.int n)), none, x, none] = .ok (.rt (.d (.int (b % n)))) (some (.l [.lst cells, .int p, .int (b / n), .int s, .int c]) :: env') := by
  simp only [drawFn, Ss.tl,  List.map_cons, List.map_nil, List.replicate, List.cons_append, List.nil_append, evSs, evS, evE, evEs, opd, slotOf, Es.slots, bindR_ok, bindR_ex, bl_ok, setS, snap_d, snap_l, p_add, p_sub, p_mul, p_mod, p_div, p_pow18, p_lt, p_le, p_gt, p_ge, p_eq, p_ne, p_ixL, p_ixT, p_neg, p_lenL, p_lenT, p_int, p_abs, p_min, p_max, List.getD_cons_zero, List.getD_cons_succ, List.getD_nil, List.set_cons_zero, List.set_cons_succ, List.length_cons, List.length_nil, List.length_set, Option.map_some, decide_eq_true_eq, decide_true, decide_false, if_true, if_false, and_self, fin_rt, fin_nx, outsOf, Bool.false_eq_true, Nat.reduceSub, Nat.reduceAdd, Nat.reduceLT, Int.reduceNeg, Int.reducePow, Int.reduceLT, or_true, true_or, at0, at1, at2, at3, at4, put1, put2, put3, put4, h1, hn, hm]
  exact ⟨_, rfl⟩
theorem tail_mix (C : Cl) (is : Nat → Nat → Bool) (p b s c n : Int) (cells : List D) (x : Option T) (h1 : ¬ 0 < b) (hn : 0 < n) (hm : n < 1073741824) :
    ∃ r s' env', 0 ≤ r ∧ r < n ∧ evSs C is drawFn.body.tl [some (.l [.lst cells, .int p, .int b, .int s, .int c]), some (.d (.int n)), none, x, none] = .ok (.rt (.d (.int r))) (some (.l [.lst cells, .int p, .int b, .int s', .int (c + 1)]) :: env') := by
  have step : ∀ x : Int, (-18446744073709551616 < x % 2147483647 ∧ x % 2147483647 < 18446744073709551616) := fun x => by
    have h1 := Int.emod_nonneg x (show (2147483647 : Int) ≠ 0 by decide)
    have h2 := Int.emod_lt_of_pos x (show (0 : Int) < 2147483647 by decide)
    omega
  have step2 : ∀ x : Int, (-18446744073709551616 < x % 2147483399 ∧ x % 2147483399 < 18446744073709551616) := fun x => by
    have h1 := Int.emod_nonneg x (show (2147483399 : Int) ≠ 0 by decide)
    have h2 := Int.emod_lt_of_pos x (show (0 : Int) < 2147483399 by decide)
    omega
  simp only [drawFn, Ss.tl,  List.map_cons, List.map_nil, List.replicate, List.cons_append, List.nil_append, evSs, evS, evE, evEs, opd, slotOf, Es.slots, bindR_ok, bindR_ex, bl_ok, setS, snap_d, snap_l, p_add, p_sub, p_mul, p_mod, p_div, p_pow18, p_lt, p_le, p_gt, p_ge, p_eq, p_ne, p_ixL, p_ixT, p_neg, p_lenL, p_lenT, p_int, p_abs, p_min, p_max, List.getD_cons_zero, List.getD_cons_succ, List.getD_nil, List.set_cons_zero, List.set_cons_succ, List.length_cons, List.length_nil, List.length_set, Option.map_some, decide_eq_true_eq, decide_true, decide_false, if_true, if_false, and_self, fin_rt, fin_nx, outsOf, Bool.false_eq_true, Nat.reduceSub, Nat.reduceAdd, Nat.reduceLT, Int.reduceNeg, Int.reducePow, Int.reduceLT, or_true, true_or, at0, at1, at2, at3, at4, put1, put2, put3, put4, h1, hn, hm, step, step2]
  exact ⟨_, _, _, Int.emod_nonneg _ (by omega), Int.emod_lt_of_pos _ hn, rfl⟩
theorem head_no (C : Cl) (is : Nat → Nat → Bool) (p b s c n : Int) (cells : List D) (h0 : ¬ (b = 0 ∧ p < cells.length)) :
    evS C is drawFn.body.hd [some (.l [.lst cells, .int p, .int b, .int s, .int c]), some (.d (.int n)), none, none, none] = .ok .nx [some (.l [.lst cells, .int p, .int b, .int s, .int c]), some (.d (.int n)), none, none, none] := by
  by_cases b0 : b = 0
  · have hp : ¬ p < (cells.length : Int) := fun z => h0 ⟨b0, z⟩
    subst b0
    simp only [drawFn, Ss.hd,  List.map_cons, List.map_nil, List.replicate, List.cons_append, List.nil_append, evSs, evS, evE, evEs, opd, slotOf, Es.slots, bindR_ok, bindR_ex, bl_ok, setS, snap_d, snap_l, p_add, p_sub, p_mul, p_mod, p_div, p_pow18, p_lt, p_le, p_gt, p_ge, p_eq, p_ne, p_ixL, p_ixT, p_neg, p_lenL, p_lenT, p_int, p_abs, p_min, p_max, List.getD_cons_zero, List.getD_cons_succ, List.getD_nil, List.set_cons_zero, List.set_cons_succ, List.length_cons, List.length_nil, List.length_set, Option.map_some, decide_eq_true_eq, decide_true, decide_false, if_true, if_false, and_self, fin_rt, fin_nx, outsOf, Bool.false_eq_true, Nat.reduceSub, Nat.reduceAdd, Nat.reduceLT, Int.reduceNeg, Int.reducePow, Int.reduceLT, or_true, true_or, at0, at1, at2, at3, at4, put1, put2, put3, put4, hp]
  · simp only [drawFn, Ss.hd,  List.map_cons, List.map_nil, List.replicate, List.cons_append, List.nil_append, evSs, evS, evE, evEs, opd, slotOf, Es.slots, bindR_ok, bindR_ex, bl_ok, setS, snap_d, snap_l, p_add, p_sub, p_mul, p_mod, p_div, p_pow18, p_lt, p_le, p_gt, p_ge, p_eq, p_ne, p_ixL, p_ixT, p_neg, p_lenL, p_lenT, p_int, p_abs, p_min, p_max, List.getD_cons_zero, List.getD_cons_succ, List.getD_nil, List.set_cons_zero, List.set_cons_succ, List.length_cons, List.length_nil, List.length_set, Option.map_some, decide_eq_true_eq, decide_true, decide_false, if_true, if_false, and_self, fin_rt, fin_nx, outsOf, Bool.false_eq_true, Nat.reduceSub, Nat.reduceAdd, Nat.reduceLT, Int.reduceNeg, Int.reducePow, Int.reduceLT, or_true, true_or, at0, at1, at2, at3, at4, put1, put2, put3, put4, b0]
theorem head_yes (C : Cl) (is : Nat → Nat → Bool) (s c n : Int) (cells : List Int) (j : Nat) (hj : j < cells.length) :
    ∃ b' s' x, (0 < b' ∨ b' = 0) ∧ evS C is drawFn.body.hd [some (.l [.lst (cells.map .int), .int j, .int 0, .int s, .int c]), some (.d (.int n)), none, none, none] = .ok .nx [some (.l [.lst (cells.map .int), .int (j + 1), .int b', .int s', .int c]), some (.d (.int n)), none, x, none] := by
  have ex : L2.atI (cells.map D.int) (j : Int) = some (.int cells[j]) := by
    refine L2.atI_nat ?_
    rw [List.getElem?_map, List.getElem?_eq_getElem hj]
    rfl
  have hlt : (j : Int) < ((cells.map D.int).length : Int) := by rw [List.length_map]; omega
  by_cases hb : (1000000000000000000 : Int) ≤ cells[j]
  · refine ⟨cells[j], s, some (.d (.int cells[j])), .inl (by omega), ?_⟩
    simp only [drawFn, Ss.hd,  List.map_cons, List.map_nil, List.replicate, List.cons_append, List.nil_append, evSs, evS, evE, evEs, opd, slotOf, Es.slots, bindR_ok, bindR_ex, bl_ok, setS, snap_d, snap_l, p_add, p_sub, p_mul, p_mod, p_div, p_pow18, p_lt, p_le, p_gt, p_ge, p_eq, p_ne, p_ixL, p_ixT, p_neg, p_lenL, p_lenT, p_int, p_abs, p_min, p_max, List.getD_cons_zero, List.getD_cons_succ, List.getD_nil, List.set_cons_zero, List.set_cons_succ, List.length_cons, List.length_nil, List.length_set, Option.map_some, decide_eq_true_eq, decide_true, decide_false, if_true, if_false, and_self, fin_rt, fin_nx, outsOf, Bool.false_eq_true, Nat.reduceSub, Nat.reduceAdd, Nat.reduceLT, Int.reduceNeg, Int.reducePow, Int.reduceLT, or_true, true_or, at0, at1, at2, at3, at4, put1, put2, put3, put4, ex, hlt, hb]
  · refine ⟨0, (s * 69621 + cells[j] * 40692 + (j + 1)) % 2147483647, some (.d (.int cells[j])), .inr rfl, ?_⟩
    simp only [drawFn, Ss.hd,  List.map_cons, List.map_nil, List.replicate, List.cons_append, List.nil_append, evSs, evS, evE, evEs, opd, slotOf, Es.slots, bindR_ok, bindR_ex, bl_ok, setS, snap_d, snap_l, p_add, p_sub, p_mul, p_mod, p_div, p_pow18, p_lt, p_le, p_gt, p_ge, p_eq, p_ne, p_ixL, p_ixT, p_neg, p_lenL, p_lenT, p_int, p_abs, p_min, p_max, List.getD_cons_zero, List.getD_cons_succ, List.getD_nil, List.set_cons_zero, List.set_cons_succ, List.length_cons, List.length_nil, List.length_set, Option.map_some, decide_eq_true_eq, decide_true, decide_false, if_true, if_false, and_self, fin_rt, fin_nx, outsOf, Bool.false_eq_true, Nat.reduceSub, Nat.reduceAdd, Nat.reduceLT, Int.reduceNeg, Int.reducePow, Int.reduceLT, or_true, true_or, at0, at1, at2, at3, at4, put1, put2, put3, put4, ex, hlt, hb]
theorem fin_cons {o : Option T} {t : T} {env : Env} : fin [0] (.ok (.rt t) (o :: env)) = .ok t [o] := (rfl)
/-- a die as it lies: cells, place, .. -/
def Die (ds : List D) : Prop := ∃ (cells : List Int) (p b s c : Int), ds = [.lst (cells.map .int), .int p, .int b, .int s, .int c] ∧ 0 ≤ p
/-- a draw gives one of n digits -/
theorem draw_ok (C : Cl) (is : Nat → Nat → Bool) {ds : List D} {n : Int} (h : Die ds) (hn : 0 < n) (hm : n < 1073741824) :
    ∃ r ds', 0 ≤ r ∧ r < n ∧ Die ds' ∧ runF C is drawFn [.l ds, .d (.int n)] = .ok (.d (.int r)) [some (.l ds')] := by
  obtain ⟨cells, p, b, s, c, rfl, hp⟩ := h
  have tail : ∀ (p b s c : Int) (x : Option T), 0 ≤ p → ∃ r ds' env', 0 ≤ r ∧ r < n ∧ Die ds' ∧ evSs C is drawFn.body.tl [some (.l [.lst (cells.map .int), .int p, .int b, .int s, .int c]), some (.d (.int n)), none, x, none] = .ok (.rt (.d (.int r))) (some (.l ds') :: env') := fun p b s c x hp => by
    by_cases h1 : 0 < b
    · obtain ⟨env', e⟩ := tail_big C is p b s c n (cells.map .int) x h1 hn hm
      exact ⟨_, _, env', Int.emod_nonneg _ (by omega), Int.emod_lt_of_pos _ hn, ⟨cells, p, b / n, s, c, rfl, hp⟩, e⟩
    · obtain ⟨r, s', env', a1, a2, e⟩ := tail_mix C is p b s c n (cells.map .int) x h1 hn hm
      exact ⟨r, _, env', a1, a2, ⟨cells, p, b, s', c + 1, rfl, hp⟩, e⟩
  have body : drawFn.body = .cons drawFn.body.hd drawFn.body.tl := rfl
  by_cases h0 : b = 0 ∧ p < cells.length
  · obtain ⟨rfl, hlt⟩ := h0
    obtain ⟨j, rfl⟩ : ∃ j : Nat, p = j := ⟨p.toNat, by omega⟩
    obtain ⟨b', s', x, _, e⟩ := head_yes C is s c n cells j (by omega)
    obtain ⟨r, ds', env', a1, a2, a3, e2⟩ := tail (j + 1) b' s' c x (by omega)
    refine ⟨r, ds', a1, a2, a3, ?_⟩
    rw [runF_eq rfl rfl, body]
    show fin [0] (evSs C is (.cons drawFn.body.hd drawFn.body.tl) [_, _, none, none, none]) = _
    rw [evSs_nx e, e2]
    rfl
  · obtain ⟨r, ds', env', a1, a2, a3, e2⟩ := tail p b s c none hp
    refine ⟨r, ds', a1, a2, a3, ?_⟩
    rw [runF_eq rfl rfl, body]
    show fin [0] (evSs C is (.cons drawFn.body.hd drawFn.body.tl) [_, _, none, none, none]) = _
    rw [evSs_nx (head_no C is p b s c n (cells.map .int) (by rw [List.length_map]; exact h0)), e2]
    rfl
end AM

set_option maxHeartbeats 8000000
/-! loops, calls, the dice made -/
namespace AM
open PySem
theorem lcL_map {b : D → Env → R (Option D)} {f : D → D} {env : Env} : ∀ (ds acc : List D), (∀ d ∈ ds, b d env = .ok (some (f d)) env) → acc.length + ds.length ≤ sizeLine → lcL b ds acc env = .ok (acc ++ ds.map f) env
  | [], acc, _, _ => by simp [lcL]
  | d :: ds, acc, h, hz => by
    unfold lcL
    rw [h d List.mem_cons_self]
    rw [List.length_cons] at hz
    show (if acc.length < sizeLine then lcL b ds (acc ++ [f d]) env else .no) = _
    rw [if_pos (by omega), lcL_map ds (acc ++ [f d]) (fun e he => h e (List.mem_cons_of_mem _ he)) (by rw [List.length_append, List.length_singleton]; omega)]
    simp
/-- turns that change what lies in the slots -/
theorem lcL_inv {b : D → Env → R (Option D)} (I : List D → Env → Prop) : ∀ (ds acc : List D) (env : Env), (∀ d ∈ ds, ∀ acc env, I acc env → ∃ x env', b d env = .ok (some x) env' ∧ I (acc ++ [x]) env') → I acc env → acc.length + ds.length ≤ sizeLine →
    ∃ out env', lcL b ds acc env = .ok out env' ∧ I out env' ∧ out.length = acc.length + ds.length
  | [], acc, env, _, i, _ => ⟨acc, env, by simp [lcL], i, by simp⟩
  | d :: ds, acc, env, h, i, hz => by
    obtain ⟨x, env', e, i'⟩ := h d List.mem_cons_self acc env i
    rw [List.length_cons] at hz
    obtain ⟨out, env2, e2, i2, l2⟩ := lcL_inv I ds (acc ++ [x]) env' (fun d' hd' => h d' (List.mem_cons_of_mem _ hd')) i' (by rw [List.length_append, List.length_singleton]; omega)
    refine ⟨out, env2, ?_, i2, by rw [l2, List.length_append, List.length_singleton, List.length_cons]; omega⟩
    unfold lcL
    rw [e]
    show (if acc.length < sizeLine then lcL b ds (acc ++ [x]) env' else .no) = _
    rw [if_pos (by omega), e2]
theorem forL_inv {b : D → Env → R Fl} (I : Nat → Env → Prop) : ∀ (ds : List D) (n : Nat) (env : Env), (∀ (i : Nat) d env, ds[i]? = some d → I (n + i) env → ∃ env', b d env = .ok .nx env' ∧ I (n + i + 1) env') → I n env → ∃ env', forL b ds env = .ok .nx env' ∧ I (n + ds.length) env'
  | [], n, env, _, i => ⟨env, rfl, i⟩
  | d :: ds, n, env, h, i => by
    obtain ⟨env', e, i'⟩ := h 0 d env rfl i
    obtain ⟨env2, e2, i2⟩ := forL_inv I ds (n + 1) env' (fun j d' env hd hi => by
      have := h (j + 1) d' env (by simpa using hd) (by rw [show n + (j + 1) = n + 1 + j by omega]; exact hi)
      rw [show n + (j + 1) + 1 = n + 1 + j + 1 by omega] at this
      exact this) i'
    refine ⟨env2, ?_, by rw [List.length_cons, show n + (ds.length + 1) = n + 1 + ds.length by omega]; exact i2⟩
    unfold forL
    rw [e]
    exact e2
theorem callK_pure {C : Cl} {f : Nat} {sl : List (Option Nat)} {ts : List T} {env : Env} {t : T} {outs : Env} (h1 : C.io f = []) (h2 : ioOk [] sl = true) (h : C.call f ts = .ok t outs) : callK C f sl ts env = .ok t env := by
  unfold callK
  rw [h1, h2, h]
  rfl
theorem callK_ex {C : Cl} {f : Nat} {sl : List (Option Nat)} {ts : List T} {env : Env} {t : X} {outs : Env} (h1 : C.io f = []) (h2 : ioOk [] sl = true) (h : C.call f ts = .ex t outs) : callK C f sl ts env = .ex t env := by
  unfold callK
  rw [h1, h2, h]
  rfl
/-- the first parameter is changed: slot i -/
theorem callK_io {C : Cl} {f i : Nat} {sl : List (Option Nat)} {ts : List T} {env : Env} {t : T} {o : Option T} (h1 : C.io f = [0]) (h2 : ioOk [0] (some i :: sl) = true) (h : C.call f ts = .ok t [o]) : callK C f (some i :: sl) ts env = .ok t (env.set i o) := by
  unfold callK
  rw [h1, h2, h]
  rfl
theorem call_eq {P : Tx} {k f : Nat} {fn : Fn} {ts : List T} (h : P.fns[f]? = some fn) : P.call (k + 1) f ts = runF ⟨P.call k, P.io, P.glob⟩ P.isa fn ts := by
  show (match P.fns[f]? with
    | some fn => runF ⟨P.call k, P.io, P.glob⟩ P.isa fn ts
    | none => .no) = _
  rw [h]
theorem cut63 (ns : List Int) (h : ns.length ≤ 63) : slF (.lst (ns.map .int)) none (some 63) = some (.l (ns.map .int)) := by
  show some (T.l (cutG (ns.map D.int) none (some 63))) = _
  have e1 : HT.sIx (ns.map D.int).length 0 none = 0 := rfl
  have e2 : HT.sIx (ns.map D.int).length (ns.map D.int).length (some 63) = min 63 (ns.map D.int).length := rfl
  unfold cutG
  rw [e1, e2, List.drop_zero, Nat.sub_zero, List.take_of_length_le (by rw [List.length_map]; omega)]
theorem dice_ok (C : Cl) (is : Nat → Nat → Bool) {ns : List Int} (h : ns.length ≤ 63) : ∃ ds, Die ds ∧ runF C is diceFn [.d (.lst (ns.map .int))] = .ok (.l ds) [] := by
  refine ⟨_, ⟨ns.map fun i => if i < 0 then -i else i, 0, 0, 1, 0, rfl, Int.le_refl 0⟩, ?_⟩
  rw [runF_eq rfl rfl]
  have lc : ∀ (p : Pt) (own : List Nat) (env : Env) (b : D → Env → R (Option D)), (∀ i, b (.int i) env = .ok (some (.int (if i < 0 then -i else i))) env) → lcL b (ns.map .int) [] env = .ok ((ns.map fun i => if i < 0 then -i else i).map .int) env := fun p own env b hb => by
    have := lcL_map (b := b) (f := fun d => match d with | .int i => .int (if i < 0 then -i else i) | d => d) (env := env) (ns.map .int) [] (fun d hd => by
      obtain ⟨i, _, rfl⟩ := List.mem_map.mp hd
      exact hb i) (by rw [List.length_map]; exact Nat.le_trans (by simpa using h) (small_le (by decide)))
    rw [this, List.nil_append, List.map_map, List.map_map]
    rfl
  simp only [diceFn, List.map_cons, List.map_nil, List.replicate, List.cons_append, List.nil_append, evSs, evS, evE, evEs, opd, slotOf, Es.slots, bindR_ok, bindR_ex, bl_ok, setS, snap_d, snap_l, p_add, p_sub, p_mul, p_mod, p_div, p_pow18, p_lt, p_le, p_gt, p_ge, p_eq, p_ne, p_ixL, p_ixT, p_neg, p_lenL, p_lenT, p_int, p_abs, p_min, p_max, List.getD_cons_zero, List.getD_cons_succ, List.getD_nil, List.set_cons_zero, List.set_cons_succ, List.length_cons, List.length_nil, List.length_set, Option.map_some, decide_eq_true_eq, decide_true, decide_false, if_true, if_false, and_self, fin_rt, fin_nx, outsOf, Bool.false_eq_true, Nat.reduceSub, Nat.reduceAdd, Nat.reduceLT, Int.reduceNeg, Int.reducePow, Int.reduceLT, or_true, true_or, at0, at1, at2, at3, at4, put1, put2, put3, put4, evI, evP, evO, evA, slR, items, It.lk, ownIx, wipeE, backE, Option.toList, bindPt, bindPts, Es.lk, p_lst, p_tup, p_tupL, p_tupT, p_listL, p_listT, p_addT, p_addL, p_dic, List.append_nil, Bool.true_and, Bool.and_true, Bool.not_true, Bool.not_false, cut63 ns h]
  rw [lc (.name 1) [] _ _ fun i => rfl]
  simp only [List.map_cons, List.map_nil, List.replicate, List.cons_append, List.nil_append, evSs, evS, evE, evEs, opd, slotOf, Es.slots, bindR_ok, bindR_ex, bl_ok, setS, snap_d, snap_l, p_add, p_sub, p_mul, p_mod, p_div, p_pow18, p_lt, p_le, p_gt, p_ge, p_eq, p_ne, p_ixL, p_ixT, p_neg, p_lenL, p_lenT, p_int, p_abs, p_min, p_max, List.getD_cons_zero, List.getD_cons_succ, List.getD_nil, List.set_cons_zero, List.set_cons_succ, List.length_cons, List.length_nil, List.length_set, Option.map_some, decide_eq_true_eq, decide_true, decide_false, if_true, if_false, and_self, fin_rt, fin_nx, outsOf, Bool.false_eq_true, Nat.reduceSub, Nat.reduceAdd, Nat.reduceLT, Int.reduceNeg, Int.reducePow, Int.reduceLT, or_true, true_or, at0, at1, at2, at3, at4, put1, put2, put3, put4, evI, evP, evO, evA, slR, items, It.lk, ownIx, wipeE, backE, Option.toList, bindPt, bindPts, Es.lk, p_lst, p_tup, p_tupL, p_tupT, p_listL, p_listT, p_addT, p_addL, p_dic, List.append_nil, Bool.true_and, Bool.and_true, Bool.not_true, Bool.not_false, small_le (show 5 ≤ 1000000 by decide)]
def S.foP : S → Pt
  | .fo p _ _ => p
  | _ => .name 0
def S.foI : S → It
  | .fo _ i _ => i
  | _ => .rng .nil
def S.foB : S → Ss
  | .fo _ _ b => b
  | _ => .nil
/-- a turn of a for -/
def turn (C : Cl) (is : Nat → Nat → Bool) (p : Pt) (b : Ss) (d : D) (env1 : Env) : R Fl := match bindPt p d env1 with
  | none => .no
  | some env2 => evSs C is b env2
theorem evS_fo {C : Cl} {is : Nat → Nat → Bool} {p : Pt} {it : It} {b : Ss} {env env0 env9 : Env} {ds : List D} (ha : apart it.lk (p.slots ++ b.asg) = true) (hi : evI C it env = .ok ds env0) (hl : forL (turn C is p b) ds (wipeE env0 it.lk) = .ok .nx env9) :
    evS C is (.fo p it b) env = .ok .nx (backE env9 env0 it.lk) := by
  unfold evS
  rw [ha, hi]
  show ((forL (turn C is p b) ds (wipeE env0 it.lk)).bind fun (f : Fl) env9 => match f with
          | .rt t => (R.ok (.rt t) (backE env9 env0 it.lk) : R Fl)
          | _ => .ok .nx (backE env9 env0 it.lk)) = _
  rw [hl]
  rfl
end AM

set_option maxHeartbeats 8000000
/-! what holds behind a run -/
namespace AM
open PySem
/-- a mark: what bears it is not looked into -/
inductive Tag {α : Type} (a : α) : Type where
  | mk
def R.bi {α β : Type} (r : R α) (f : α → Env → R β) (_ : Tag f := .mk) : R β := r.bind f
def cnd {α : Type} (k : Bool) (x y : α) (_ : Tag x := .mk) (_ : Tag y := .mk) : α := cond k x y
def thn (f : Fl) (r : R Fl) (env : Env) (_ : Tag r := .mk) : R Fl := match f with
  | .nx => r
  | f => .ok f env
@[irreducible] def R.wp {α : Type} (r : R α) (Q : α → Env → Prop) (E : X → Env → Prop) (_ : Tag Q := .mk) (_ : Tag E := .mk) : Prop := match r with
  | .ok a env => Q a env
  | .ex x env => E x env
  | .no => False
theorem wp_ok {α : Type} (a : α) (env : Env) (Q : α → Env → Prop) (E : X → Env → Prop) : (R.ok a env).wp Q E = Q a env := by unfold R.wp; rfl
theorem wp_ex {α : Type} (x : X) (env : Env) (Q : α → Env → Prop) (E : X → Env → Prop) : (R.ex x env : R α).wp Q E = E x env := by unfold R.wp; rfl
theorem wp_no {α : Type} (Q : α → Env → Prop) (E : X → Env → Prop) : (R.no : R α).wp Q E = False := by unfold R.wp; rfl
theorem wp_bind0 {α β : Type} (r : R α) (f : α → Env → R β) (Q : β → Env → Prop) (E : X → Env → Prop) : (r.bind f).wp Q E = r.wp (fun a env => (f a env).wp Q E) E := by
  cases r <;> simp only [R.bind, wp_ok, wp_ex, wp_no]
theorem wp_bind {α β : Type} (r : R α) (f : α → Env → R β) (Q : β → Env → Prop) (E : X → Env → Prop) : (r.bi f).wp Q E = r.wp (fun a env => (f a env).wp Q E) E := wp_bind0 r f Q E
theorem bnd_ok {α β : Type} (a : α) (env : Env) (f : α → Env → R β) : (R.ok a env).bi f = f a env := (rfl)
theorem bnd_ex {α β : Type} (x : X) (env : Env) (f : α → Env → R β) : (R.ex x env : R α).bi f = .ex x env := (rfl)
theorem wp_mono {α : Type} {r : R α} {Q Q' : α → Env → Prop} {E E' : X → Env → Prop} (h : r.wp Q E) (hq : ∀ a env, Q a env → Q' a env) (he : ∀ x env, E x env → E' x env) : r.wp Q' E' := by
  cases r with
  | ok a env => rw [wp_ok] at h ⊢; exact hq _ _ h
  | ex x env => rw [wp_ex] at h ⊢; exact he _ _ h
  | no => rw [wp_no] at h; exact h.elim
theorem wp_of {α : Type} {r : R α} {a : α} {env : Env} {Q : α → Env → Prop} {E : X → Env → Prop} (h : r = .ok a env) (hq : Q a env) : r.wp Q E := by rw [h, wp_ok]; exact hq
theorem wp_ofx {α : Type} {r : R α} {x : X} {env : Env} {Q : α → Env → Prop} {E : X → Env → Prop} (h : r = .ex x env) (hq : E x env) : r.wp Q E := by rw [h, wp_ex]; exact hq
theorem wp_get {α : Type} {r : R α} {Q : α → Env → Prop} (h : r.wp Q fun _ _ => False) : ∃ a env, r = .ok a env ∧ Q a env := by
  cases r with
  | ok a env => rw [wp_ok] at h; exact ⟨a, env, rfl, h⟩
  | ex x env => rw [wp_ex] at h; exact h.elim
  | no => rw [wp_no] at h; exact h.elim
theorem wp_cond {α : Type} {k : Bool} {x y : R α} {Q : α → Env → Prop} {E : X → Env → Prop} (h1 : k = true → x.wp Q E) (h2 : k = false → y.wp Q E) : (cnd k x y).wp Q E := by
  cases k
  · exact h2 rfl
  · exact h1 rfl
theorem cond_t {α : Type} (x y : α) : cnd true x y = x := (rfl)
theorem cond_f {α : Type} (x y : α) : cnd false x y = y := (rfl)
section
variable (C : Cl) (is : Nat → Nat → Bool)
/-! ### expressions, one by one; comprehensions and loops have rules of their own -/
theorem e_cst (d : D) (env : Env) : evE C (.cst d) env = .ok (.d d) env := by rw [evE]
theorem e_glob {x : Str} {d : D} (env : Env) (h : C.glob x = some d) : evE C (.glob x) env = .ok (.d d) env := by rw [evE, h]
def varR (o : Option T) (env : Env) : R T := match o with
  | some (.d d) => .ok (.d d) env
  | _ => .no
theorem varR_d (d : D) (env : Env) : varR (some (.d d)) env = .ok (.d d) env := (rfl)
theorem e_var (i : Nat) (env : Env) : evE C (.var i) env = varR (env.getD i none) env := by rw [evE]; rfl
def someR {α : Type} (o : Option α) (env : Env) : R α := match o with
  | some t => .ok t env
  | none => .no
theorem someR_s {α : Type} (a : α) (env : Env) : someR (some a) env = .ok a env := (rfl)
theorem e_prim0 (p : Prim) (es : Es) (env : Env) : evE C (.prim p es) env = (evEs C es env).bind fun ds env' => someR (primF p ds) env' := by
  rw [evE]; congr 1; funext ds env'; cases primF p ds <;> rfl
theorem e_prim (p : Prim) (es : Es) (env : Env) : evE C (.prim p es) env = (evEs C es env).bi fun ds env' => someR (primF p ds) env' := by
  apply e_prim0
theorem e_sl0 (x : E) (lo hi : Oe) (env : Env) (h : slotOf x = none) : evE C (.sl x lo hi) env = (evE C x env).bind fun t env0 => (evP C lo env0).bind fun l env1 => (evP C hi env1).bind fun h env2 => slR t.snap l h env2 := by rw [evE, h]
theorem e_sl (x : E) (lo hi : Oe) (env : Env) (h : slotOf x = none) : evE C (.sl x lo hi) env = (evE C x env).bi fun t env0 => (evP C lo env0).bi fun l env1 => (evP C hi env1).bi fun h env2 => slR t.snap l h env2 := by
  apply e_sl0 <;> assumption
theorem e_slv0 (i : Nat) (lo hi : Oe) (env : Env) (hx : (env.getD i none).isSome = true) : evE C (.sl (.vw i) lo hi) env = (evP C lo env).bind fun l env1 => (evP C hi env1).bind fun h env2 => (someR (env2.getD i none) env2).bind fun t env2 => slR t.snap l h env2 := by
  obtain ⟨t, ht⟩ := Option.isSome_iff_exists.mp hx
  rw [evE]
  show (match env.getD i none with
      | some _ => _
      | none => _) = _
  rw [ht]
  show R.bind _ _ = R.bind _ _
  congr 1; funext l env1; congr 1; funext h env2
  cases env2.getD i none <;> rfl
theorem e_slv (i : Nat) (lo hi : Oe) (env : Env) (hx : (env.getD i none).isSome = true) : evE C (.sl (.vw i) lo hi) env = (evP C lo env).bi fun l env1 => (evP C hi env1).bi fun h env2 => (someR (env2.getD i none) env2).bi fun t env2 => slR t.snap l h env2 := by
  apply e_slv0 <;> assumption
theorem e_and0 (a b : E) (env : Env) : evE C (.and a b) env = ((evE C a env).bl).bind fun c env' => cond c (evE C b env') (.ok (.d (.bl false)) env') := by
  rw [evE] <;> congr 1
theorem e_and (a b : E) (env : Env) : evE C (.and a b) env = ((evE C a env).bl).bi fun c env' => cnd c (evE C b env') (.ok (.d (.bl false)) env') := by
  apply e_and0
theorem e_or0 (a b : E) (env : Env) : evE C (.or a b) env = ((evE C a env).bl).bind fun c env' => cond c (.ok (.d (.bl true)) env') (evE C b env') := by
  rw [evE] <;> congr 1
theorem e_or (a b : E) (env : Env) : evE C (.or a b) env = ((evE C a env).bl).bi fun c env' => cnd c (.ok (.d (.bl true)) env') (evE C b env') := by
  apply e_or0
theorem e_one (a : E) (env : Env) : evE C (.one a) env = evE C a env := by rw [evE]
theorem e_not0 (a : E) (env : Env) : evE C (.not a) env = ((evE C a env).bl).bind fun c env' => .ok (.d (.bl (!c))) env' := by rw [evE]
theorem e_not (a : E) (env : Env) : evE C (.not a) env = ((evE C a env).bl).bi fun c env' => .ok (.d (.bl (!c))) env' := by
  apply e_not0
theorem e_tru0 (a : E) (env : Env) : evE C (.tru a) env = (opd (slotOf a) (evE C a) env).bind fun d env' => (someR (truF d) env').bind fun b env' => .ok (.d (.bl b)) env' := by
  rw [evE]; congr 1; funext d env'; cases truF d <;> rfl
theorem e_tru (a : E) (env : Env) : evE C (.tru a) env = (opd (slotOf a) (evE C a) env).bi fun d env' => (someR (truF d) env').bi fun b env' => .ok (.d (.bl b)) env' := by
  apply e_tru0
theorem e_ife0 (c a b : E) (env : Env) : evE C (.ife c a b) env = ((evE C c env).bl).bind fun k env' => cond k (evE C a env') (evE C b env') := by
  rw [evE] <;> congr 1
theorem e_ife (c a b : E) (env : Env) : evE C (.ife c a b) env = ((evE C c env).bl).bi fun k env' => cnd k (evE C a env') (evE C b env') := by
  apply e_ife0
theorem e_chain0 (o1 o2 : CmpOp) (a b c : E) (env : Env) : evE C (.chain o1 o2 a b c) env = (evE C a env).bind fun x env1 => (evE C b env1).bind fun y env2 => (someR (cmpF o1 x.snap y.snap) env2).bind fun k env2 => cond k ((evE C c env2).bind fun z env3 => (someR (cmpF o2 y.snap z.snap) env3).bind fun k env3 => .ok (.d (.bl k)) env3) (.ok (.d (.bl false)) env2) := by
  rw [evE]; congr 1; funext x env1; congr 1; funext y env2
  cases cmpF o1 x.snap y.snap with
  | none => rfl
  | some k => cases k with
    | false => rfl
    | true =>
      show R.bind _ _ = R.bind _ _
      congr 1; funext z env3
      cases cmpF o2 y.snap z.snap <;> rfl
theorem e_chain (o1 o2 : CmpOp) (a b c : E) (env : Env) : evE C (.chain o1 o2 a b c) env = (evE C a env).bi fun x env1 => (evE C b env1).bi fun y env2 => (someR (cmpF o1 x.snap y.snap) env2).bi fun k env2 => cnd k ((evE C c env2).bi fun z env3 => (someR (cmpF o2 y.snap z.snap) env3).bi fun k env3 => .ok (.d (.bl k)) env3) (.ok (.d (.bl false)) env2) := by
  apply e_chain0
theorem e_call0 (f : Nat) (es : Es) (env : Env) : evE C (.call f es) env = (evA C es env).bind fun ts env' => callK C f es.slots ts env' := by rw [evE]
theorem e_call (f : Nat) (es : Es) (env : Env) : evE C (.call f es) env = (evA C es env).bi fun ts env' => callK C f es.slots ts env' := by
  apply e_call0
theorem s_nil : Es.slots .nil = [] := (rfl)
theorem s_cons (e : E) (es : Es) : Es.slots (.cons e es) = slotOf e :: es.slots := by rw [Es.slots]
theorem o_no (env : Env) : evO C .no env = .ok true env := by rw [evO]
theorem o_yes (c : E) (env : Env) : evO C (.yes c) env = (evE C c env).bl := by rw [evO]
def intR (t : T) (env : Env) : R (Option Int) := match t with
    | .d (.int i) => .ok (some i) env
    | _ => .no
theorem intR_i (i : Int) (env : Env) : intR (.d (.int i)) env = .ok (some i) env := (rfl)
theorem pt_no (env : Env) : evP C .no env = .ok none env := by rw [evP]
theorem pt_yes0 (c : E) (env : Env) : evP C (.yes c) env = (evE C c env).bind intR := by rw [evP]; rfl
theorem pt_yes (c : E) (env : Env) : evP C (.yes c) env = (evE C c env).bi intR := by
  apply pt_yes0
theorem es_nil (env : Env) : evEs C .nil env = .ok [] env := by rw [evEs]
theorem es_val0 {e : E} (es : Es) (env : Env) (h : slotOf e = none) : evEs C (.cons e es) env = (evE C e env).bind fun t env' => (evEs C es env').bind fun ds env'' => .ok (t.snap :: ds) env'' := by rw [evEs, h]
theorem es_val {e : E} (es : Es) (env : Env) (h : slotOf e = none) : evEs C (.cons e es) env = (evE C e env).bi fun t env' => (evEs C es env').bi fun ds env'' => .ok (t.snap :: ds) env'' := by
  apply es_val0 <;> assumption
theorem es_vw0 (i : Nat) (es : Es) (env : Env) (hx : (env.getD i none).isSome = true) : evEs C (.cons (.vw i) es) env = (evEs C es env).bind fun ds env' => (someR (env'.getD i none) env').bind fun t env' => .ok (t.snap :: ds) env' := by
  obtain ⟨t, ht⟩ := Option.isSome_iff_exists.mp hx
  rw [evEs]
  show (match env.getD i none with
      | some _ => _
      | none => _) = _
  rw [ht]
  show R.bind _ _ = R.bind _ _
  congr 1; funext ds env'
  cases env'.getD i none <;> rfl
theorem es_vw (i : Nat) (es : Es) (env : Env) (hx : (env.getD i none).isSome = true) : evEs C (.cons (.vw i) es) env = (evEs C es env).bi fun ds env' => (someR (env'.getD i none) env').bi fun t env' => .ok (t.snap :: ds) env' := by
  apply es_vw0 <;> assumption
theorem a_nil (env : Env) : evA C .nil env = .ok [] env := by rw [evA]
theorem a_val0 {e : E} (es : Es) (env : Env) (h : slotOf e = none) : evA C (.cons e es) env = (evE C e env).bind fun t env' => (evA C es env').bind fun ds env'' => .ok (.d t.snap :: ds) env'' := by rw [evA, h]
theorem a_val {e : E} (es : Es) (env : Env) (h : slotOf e = none) : evA C (.cons e es) env = (evE C e env).bi fun t env' => (evA C es env').bi fun ds env'' => .ok (.d t.snap :: ds) env'' := by
  apply a_val0 <;> assumption
theorem a_vw0 (i : Nat) (es : Es) (env : Env) (hx : (env.getD i none).isSome = true) : evA C (.cons (.vw i) es) env = (evA C es env).bind fun ds env' => (someR (env'.getD i none) env').bind fun t env' => .ok (t :: ds) env' := by
  obtain ⟨t, ht⟩ := Option.isSome_iff_exists.mp hx
  rw [evA]
  show (match env.getD i none with
      | some _ => _
      | none => _) = _
  rw [ht]
  show R.bind _ _ = R.bind _ _
  congr 1; funext ds env'
  cases env'.getD i none <;> rfl
theorem a_vw (i : Nat) (es : Es) (env : Env) (hx : (env.getD i none).isSome = true) : evA C (.cons (.vw i) es) env = (evA C es env).bi fun ds env' => (someR (env'.getD i none) env').bi fun t env' => .ok (t :: ds) env' := by
  apply a_vw0 <;> assumption
theorem it_seq0 (e : E) (env : Env) : evI C (.seq e) env = (opd (slotOf e) (evE C e) env).bind fun d env' => someR (items d) env' := by
  rw [evI]; congr 1; funext d env'; cases items d <;> rfl
theorem it_seq (e : E) (env : Env) : evI C (.seq e) env = (opd (slotOf e) (evE C e) env).bi fun d env' => someR (items d) env' := by
  apply it_seq0
theorem it_rng0 (es : Es) (env : Env) : evI C (.rng es) env = (evEs C es env).bind fun ds env' => someR (rngF ds) env' := by
  rw [evI]; congr 1; funext ds env'; cases rngF ds <;> rfl
theorem it_rng (es : Es) (env : Env) : evI C (.rng es) env = (evEs C es env).bi fun ds env' => someR (rngF ds) env' := by
  apply it_rng0
def enumR (d : D) (env : Env) : R (List D) := match d with
    | .lst ds => .ok (enumF ds) env
    | _ => .no
theorem it_enum0 (e : E) (env : Env) : evI C (.enum e) env = (opd (slotOf e) (evE C e) env).bind enumR := by rw [evI]; rfl
theorem it_enum (e : E) (env : Env) : evI C (.enum e) env = (opd (slotOf e) (evE C e) env).bi enumR := by
  apply it_enum0
theorem opd_n0 (f : Env → R T) (env : Env) : opd none f env = (f env).bind fun t env' => .ok t.snap env' := (rfl)
theorem opd_n (f : Env → R T) (env : Env) : opd none f env = (f env).bi fun t env' => .ok t.snap env' := by
  apply opd_n0
theorem opd_s0 (i : Nat) (f : Env → R T) (env : Env) : opd (some i) f env = (someR (env.getD i none) env).bind fun t env => .ok t.snap env := by
  show (match env.getD i none with
    | some t => (R.ok t.snap env : R D)
    | none => .no) = _
  cases env.getD i none <;> rfl
theorem opd_s (i : Nat) (f : Env → R T) (env : Env) : opd (some i) f env = (someR (env.getD i none) env).bi fun t env => .ok t.snap env := by
  apply opd_s0
/-! ### statements -/
theorem t_set0 (i : Nat) (e : E) (env : Env) : evS C is (.set i e) env = (evE C e env).bind fun t env' => setS i t env' := by rw [evS]
theorem t_set (i : Nat) (e : E) (env : Env) : evS C is (.set i e) env = (evE C e env).bi fun t env' => setS i t env' := by
  apply t_set0
def bindR (p : Pt) (d : D) (env : Env) : R Fl := match bindPt p d env with
  | some env2 => .ok .nx env2
  | none => .no
theorem t_unp0 (p : Pt) (e : E) (env : Env) : evS C is (.unp p e) env = (evE C e env).bind fun t env' => bindR p t.snap env' := by rw [evS]; rfl
theorem t_unp (p : Pt) (e : E) (env : Env) : evS C is (.unp p e) env = (evE C e env).bi fun t env' => bindR p t.snap env' := by
  apply t_unp0
theorem t_par0 (i j : Nat) (a b : E) (env : Env) : evS C is (.par i j a b) env = (evE C a env).bind fun t env1 => (evE C b env1).bind fun u env2 => (setS i (.d t.snap) env2).bind fun _ env3 => setS j (.d u.snap) env3 := by rw [evS]
theorem t_par (i j : Nat) (a b : E) (env : Env) : evS C is (.par i j a b) env = (evE C a env).bi fun t env1 => (evE C b env1).bi fun u env2 => (setS i (.d t.snap) env2).bi fun _ env3 => setS j (.d u.snap) env3 := by
  apply t_par0
def ownR (o : Option T) (env : Env) : R Unit := match o with
  | some (.l _) => .ok () env
  | _ => .no
theorem ownR_l (ds : List D) (env : Env) : ownR (some (.l ds)) env = .ok () env := (rfl)
def valR (o : Option T) (env : Env) : R D := match o with
  | some (.d x) => .ok x env
  | _ => .no
theorem valR_d (d : D) (env : Env) : valR (some (.d d)) env = .ok d env := (rfl)
theorem t_setIx0 (i : Nat) (k v : E) (env : Env) : evS C is (.setIx i k v) env = (evE C v env).bind fun tv env1 => (ownR (env1.getD i none) env1).bind fun _ env1 => (evE C k env1).bind fun tk env2 => putR i tk.snap tv.snap env2 := by
  rw [evS]
  congr 1; funext tv env1
  cases env1.getD i none with
  | none => rfl
  | some t => cases t <;> rfl
theorem t_setIx (i : Nat) (k v : E) (env : Env) : evS C is (.setIx i k v) env = (evE C v env).bi fun tv env1 => (ownR (env1.getD i none) env1).bi fun _ env1 => (evE C k env1).bi fun tk env2 => putR i tk.snap tv.snap env2 := by
  apply t_setIx0
theorem t_aug0 (i : Nat) (o : Operator) (e : E) (env : Env) : evS C is (.aug i o e) env = (valR (env.getD i none) env).bind fun x env => (evE C e env).bind fun t env' => augR i o x t.snap env' := by
  rw [evS]
  cases env.getD i none with
  | none => rfl
  | some t => cases t <;> rfl
theorem t_aug (i : Nat) (o : Operator) (e : E) (env : Env) : evS C is (.aug i o e) env = (valR (env.getD i none) env).bi fun x env => (evE C e env).bi fun t env' => augR i o x t.snap env' := by
  apply t_aug0
theorem t_exp0 (e : E) (env : Env) : evS C is (.exp e) env = (evE C e env).bind fun _ env' => .ok .nx env' := by rw [evS]
theorem t_exp (e : E) (env : Env) : evS C is (.exp e) env = (evE C e env).bi fun _ env' => .ok .nx env' := by
  apply t_exp0
theorem t_app0 (i : Nat) (e : E) (env : Env) : evS C is (.app i e) env = (ownR (env.getD i none) env).bind fun _ env => (evE C e env).bind fun t env' => appR i t.snap env' := by
  rw [evS]
  cases env.getD i none with
  | none => rfl
  | some t => cases t <;> rfl
theorem t_app (i : Nat) (e : E) (env : Env) : evS C is (.app i e) env = (ownR (env.getD i none) env).bi fun _ env => (evE C e env).bi fun t env' => appR i t.snap env' := by
  apply t_app0
def frzR (o : Option T) (i : Nat) (env : Env) : R Fl := match o with
  | some t => .ok .nx (env.set i (some (.d t.snap)))
  | none => .no
theorem frzR_s (t : T) (i : Nat) (env : Env) : frzR (some t) i env = .ok .nx (env.set i (some (.d t.snap))) := (rfl)
theorem t_frz (i : Nat) (env : Env) : evS C is (.frz i) env = frzR (env.getD i none) i env := by
  rw [evS]
  cases env.getD i none <;> rfl
theorem e_pop0 (i : Nat) (es : Es) (env : Env) : evE C (.pop i es) env = (ownR (env.getD i none) env).bind fun _ env => (evEs C es env).bind fun ds env' => popR i ds env' := by
  rw [evE]
  cases env.getD i none with
  | none => rfl
  | some t => cases t <;> rfl
theorem e_pop (i : Nat) (es : Es) (env : Env) : evE C (.pop i es) env = (ownR (env.getD i none) env).bi fun _ env => (evEs C es env).bi fun ds env' => popR i ds env' := by
  apply e_pop0
theorem setS_lt (i : Nat) (t : T) (env : Env) (h : i < env.length) : setS i t env = .ok .nx (env.set i (some t)) := by
  unfold setS
  rw [if_pos h]
theorem appR_l (i : Nat) (d : D) (env : Env) : appR i d env = match env.getD i none with
  | some (.l xs) => if xs.length < sizeLine then .ok .nx (env.set i (some (.l (xs ++ [d])))) else .no
  | _ => .no := rfl
theorem t_ife0 (c : E) (a b : Ss) (env : Env) : evS C is (.ife c a b) env = ((evE C c env).bl).bind fun k env' => cond k (evSs C is a env') (evSs C is b env') := by
  rw [evS] <;> congr 1
theorem t_ife (c : E) (a b : Ss) (env : Env) : evS C is (.ife c a b) env = ((evE C c env).bl).bi fun k env' => cnd k (evSs C is a env') (evSs C is b env') := by
  apply t_ife0
theorem t_ret0 (e : E) (env : Env) : evS C is (.ret e) env = (evE C e env).bind fun t env' => .ok (.rt t) env' := by rw [evS]
theorem t_ret (e : E) (env : Env) : evS C is (.ret e) env = (evE C e env).bi fun t env' => .ok (.rt t) env' := by
  apply t_ret0
theorem t_mov0 (i : Nat) (env : Env) : evS C is (.mov i) env = (someR (env.getD i none) env).bind fun t env => .ok (.rt t) (env.set i none) := by
  rw [evS]
  cases env.getD i none <;> rfl
theorem t_mov (i : Nat) (env : Env) : evS C is (.mov i) env = (someR (env.getD i none) env).bi fun t env => .ok (.rt t) (env.set i none) := by
  apply t_mov0
def boolR (t : T) (env : Env) : R Bool := match t with
  | .d (.bl b) => .ok b env
  | _ => .no
theorem boolR_b (b : Bool) (env : Env) : boolR (.d (.bl b)) env = .ok b env := (rfl)
theorem bl_bind0 (r : R T) : r.bl = r.bind boolR := by
  unfold R.bl
  rfl
theorem bl_bind (r : R T) : r.bl = r.bi boolR := bl_bind0 r
theorem t_retN (env : Env) : evS C is .retN env = .ok (.rt (.d .non)) env := by rw [evS]
theorem t_brk (env : Env) : evS C is .brk env = .ok .bk env := by rw [evS]
theorem t_cnt (env : Env) : evS C is .cnt env = .ok .ct env := by rw [evS]
theorem t_pass (env : Env) : evS C is .pass env = .ok .nx env := by rw [evS]
theorem t_rais0 (c : Nat) (es : Es) (env : Env) : evS C is (.rais c es) env = (evEs C es env).bind fun ds env' => .ex ⟨c, ds⟩ env' := by rw [evS]
theorem t_rais (c : Nat) (es : Es) (env : Env) : evS C is (.rais c es) env = (evEs C es env).bi fun ds env' => .ex ⟨c, ds⟩ env' := by
  apply t_rais0
def thenR (f : Fl) (r : R Fl) (env : Env) : R Fl := match f with
  | .nx => r
  | f => .ok f env
theorem then_nx (r : R Fl) (env : Env) : thn .nx r env = r := (rfl)
theorem then_rt (t : T) (r : R Fl) (env : Env) : thn (.rt t) r env = .ok (.rt t) env := (rfl)
theorem then_bk (r : R Fl) (env : Env) : thn .bk r env = .ok .bk env := (rfl)
theorem then_ct (r : R Fl) (env : Env) : thn .ct r env = .ok .ct env := (rfl)
theorem b_nil (env : Env) : evSs C is .nil env = .ok .nx env := by rw [evSs]
theorem b_cons0 (s : S) (ss : Ss) (env : Env) : evSs C is (.cons s ss) env = (evS C is s env).bind fun f env' => thenR f (evSs C is ss env') env' := by
  rw [evSs] <;> congr 1
theorem b_cons (s : S) (ss : Ss) (env : Env) : evSs C is (.cons s ss) env = (evS C is s env).bi fun f env' => thn f (evSs C is ss env') env' := by
  apply b_cons0
end
/-! ### rules -/
def tryR (r : R Fl) (h : X → Env → R Fl) : R Fl := match r with
  | .ex x env' => h x env'
  | r => r
theorem t_tr (C : Cl) (is : Nat → Nat → Bool) (b : Ss) (hs : Hs) (env : Env) : evS C is (.tr b hs) env = tryR (evSs C is b env) (evHs C is hs) := by
  rw [evS]
  cases evSs C is b env <;> rfl
theorem wp_try (r : R Fl) (h : X → Env → R Fl) (Q : Fl → Env → Prop) (E : X → Env → Prop) : (tryR r h).wp Q E = r.wp Q (fun x env => (h x env).wp Q E) := by
  cases r <;> simp only [tryR, wp_ok, wp_ex, wp_no]
theorem h_nil (C : Cl) (is : Nat → Nat → Bool) (x : X) (env : Env) : evHs C is .nil x env = .ex x env := by rw [evHs]
theorem h_cons0 (C : Cl) (is : Nat → Nat → Bool) (c : Nat) (i : Option Nat) (b : Ss) (hs : Hs) (x : X) (env : Env) : evHs C is (.cons c i b hs) x env = cond (is x.c c) (evSs C is b env) (evHs C is hs x env) := by
  rw [evHs]
  cases is x.c c <;> rfl
theorem h_cons (C : Cl) (is : Nat → Nat → Bool) (c : Nat) (i : Option Nat) (b : Ss) (hs : Hs) (x : X) (env : Env) : evHs C is (.cons c i b hs) x env = cnd (is x.c c) (evSs C is b env) (evHs C is hs x env) := by
  apply h_cons0
def afterT (Q : Fl → Env → Prop) (I : Env → Prop) (bk : Env → Env) : Fl → Env → Prop
  | .nx, env => I env
  | .ct, env => I env
  | .bk, env => Q .nx (bk env)
  | .rt t, env => Q (.rt t) (bk env)
theorem after_nx (Q : Fl → Env → Prop) (I : Env → Prop) (bk : Env → Env) (env : Env) : afterT Q I bk .nx env = I env := (rfl)
theorem after_ct (Q : Fl → Env → Prop) (I : Env → Prop) (bk : Env → Env) (env : Env) : afterT Q I bk .ct env = I env := (rfl)
theorem after_bk (Q : Fl → Env → Prop) (I : Env → Prop) (bk : Env → Env) (env : Env) : afterT Q I bk .bk env = Q .nx (bk env) := (rfl)
theorem after_rt (Q : Fl → Env → Prop) (I : Env → Prop) (bk : Env → Env) (t : T) (env : Env) : afterT Q I bk (.rt t) env = Q (.rt t) (bk env) := (rfl)
theorem wp_forL {b : D → Env → R Fl} {bk : Env → Env} {Q : Fl → Env → Prop} {E : X → Env → Prop} (I : Nat → Env → Prop) : ∀ (ds : List D) (n : Nat) (env : Env), (∀ (i : Nat) d env, ds[i]? = some d → I (n + i) env → (b d env).wp (afterT Q (I (n + i + 1)) bk) E) → I n env → (∀ env, I (n + ds.length) env → Q .nx (bk env)) →
    (forL b ds env).wp (fun f env9 => match f with
      | .rt t => Q (.rt t) (bk env9)
      | _ => Q .nx (bk env9)) E
  | [], n, env, _, i, q => by
    unfold forL
    rw [wp_ok]
    exact q env i
  | d :: ds, n, env, h, i, q => by
    have h0 := h 0 d env rfl i
    unfold forL
    rw [wp_bind0]
    refine wp_mono h0 (fun f env' hf => ?_) (fun _ _ z => z)
    have rest : ∀ env', I (n + 1) env' → (forL b ds env').wp (fun f env9 => match f with
      | .rt t => Q (.rt t) (bk env9)
      | _ => Q .nx (bk env9)) E := fun env' i' => wp_forL I ds (n + 1) env' (fun j d' env hd hi => by
        have := h (j + 1) d' env (by simpa using hd) (by rw [show n + (j + 1) = n + 1 + j by omega]; exact hi)
        rw [show n + (j + 1) + 1 = n + 1 + j + 1 by omega] at this
        exact this) i' (fun env hi => q env (by rw [List.length_cons, show n + (ds.length + 1) = n + 1 + ds.length by omega]; exact hi))
    cases f with
    | nx => exact rest env' hf
    | ct => exact rest env' hf
    | bk => show (R.ok Fl.nx env').wp _ _; rw [wp_ok]; exact hf
    | rt t => show (R.ok (Fl.rt t) env').wp _ _; rw [wp_ok]; exact hf
/-- a for: I before the turns -/
theorem wp_fo {C : Cl} {is : Nat → Nat → Bool} {p : Pt} {it : It} {b : Ss} {env env0 : Env} {ds : List D} {Q : Fl → Env → Prop} {E : X → Env → Prop} (I : Nat → Env → Prop) (ha : apart it.lk (p.slots ++ b.asg) = true) (hi : evI C it env = .ok ds env0)
    (h0 : I 0 (wipeE env0 it.lk)) (hq : ∀ env, I ds.length env → Q .nx (backE env env0 it.lk)) (hs : ∀ (i : Nat) d env, ds[i]? = some d → I i env → (turn C is p b d env).wp (afterT Q (I (i + 1)) (fun env => backE env env0 it.lk)) E) : (evS C is (.fo p it b) env).wp Q E := by
  unfold evS
  rw [ha, hi]
  show ((forL (turn C is p b) ds (wipeE env0 it.lk)).bind fun (f : Fl) env9 => match f with
          | .rt t => (R.ok (.rt t) (backE env9 env0 it.lk) : R Fl)
          | _ => .ok .nx (backE env9 env0 it.lk)).wp Q E
  rw [wp_bind0]
  refine wp_mono (wp_forL (bk := fun env => backE env env0 it.lk) I ds 0 (wipeE env0 it.lk) (fun i d env hd h => by rw [Nat.zero_add] at h ⊢; exact hs i d env hd h) h0 (fun env h => hq env (by rw [Nat.zero_add] at h; exact h))) (fun f env9 h => ?_) (fun _ _ z => z)
  cases f <;> (simp only [wp_ok]; exact h)
theorem turn_n (C : Cl) (is : Nat → Nat → Bool) (i : Nat) (b : Ss) (d : D) (env : Env) (h : i < env.length) : turn C is (.name i) b d env = evSs C is b (env.set i (some (.d d))) := by
  unfold turn
  rw [bindPt, if_pos h]
theorem turn_p {C : Cl} {is : Nat → Nat → Bool} {p : Pt} {b : Ss} {d : D} {env env2 : Env} (h : bindPt p d env = some env2) : turn C is p b d env = evSs C is b env2 := by
  unfold turn
  rw [h]
/-- a comprehension's turn -/
def lcT (C : Cl) (own : List Nat) (p : Pt) (ifs : Oe) (e : E) (d : D) (env1 : Env) : R (Option D) := match bindPt p d env1 with
      | none => .no
      | some env2 => (evO C ifs env2).bind fun k env3 => cond k ((evE C e env3).bind fun t env4 => .ok (some t.snap) (wipeE env4 own)) (.ok none (wipeE env3 own))
theorem lcT_p0 {C : Cl} {own : List Nat} {p : Pt} {ifs : Oe} {e : E} {d : D} {env env2 : Env} (h : bindPt p d env = some env2) : lcT C own p ifs e d env = (evO C ifs env2).bind fun k env3 => cond k ((evE C e env3).bind fun t env4 => .ok (some t.snap) (wipeE env4 own)) (.ok none (wipeE env3 own)) := by
  unfold lcT
  rw [h]
theorem lcT_p {C : Cl} {own : List Nat} {p : Pt} {ifs : Oe} {e : E} {d : D} {env env2 : Env} (h : bindPt p d env = some env2) : lcT C own p ifs e d env = (evO C ifs env2).bi fun k env3 => cnd k ((evE C e env3).bi fun t env4 => .ok (some t.snap) (wipeE env4 own)) (.ok none (wipeE env3 own)) := by
  apply lcT_p0 <;> assumption
theorem e_lc0 (C : Cl) (own : List (Str × Nat)) (p : Pt) (it : It) (ifs : Oe) (e : E) (env : Env) : evE C (.lc own p it ifs e) env = (evI C it env).bind fun ds env0 => (lcL (lcT C (ownIx own) p ifs e) ds [] (wipeE env0 (ownIx own ++ it.lk))).bind fun out env9 => .ok (.l out) (backE env9 env0 (ownIx own ++ it.lk)) := by
  rw [evE]
  congr 1; funext ds env0; congr 2; funext d env1
  unfold lcT
  cases bindPt p d env1 with
  | none => rfl
  | some env2 =>
    show R.bind _ _ = R.bind _ _
    congr 1; funext k env3; cases k <;> rfl
theorem e_lc (C : Cl) (own : List (Str × Nat)) (p : Pt) (it : It) (ifs : Oe) (e : E) (env : Env) : evE C (.lc own p it ifs e) env = (evI C it env).bi fun ds env0 => (lcL (lcT C (ownIx own) p ifs e) ds [] (wipeE env0 (ownIx own ++ it.lk))).bi fun out env9 => .ok (.l out) (backE env9 env0 (ownIx own ++ it.lk)) := by
  apply e_lc0
def afterL (I : List D → Env → Prop) (acc : List D) : Option D → Env → Prop
  | none, env => I acc env
  | some x, env => acc.length < sizeLine ∧ I (acc ++ [x]) env
theorem after_no (I : List D → Env → Prop) (acc : List D) (env : Env) : afterL I acc none env = I acc env := (rfl)
theorem after_so (I : List D → Env → Prop) (acc : List D) (x : D) (env : Env) : afterL I acc (some x) env = (acc.length < sizeLine ∧ I (acc ++ [x]) env) := (rfl)
theorem wp_lcL {b : D → Env → R (Option D)} {Q : List D → Env → Prop} {E : X → Env → Prop} (I : Nat → List D → Env → Prop) : ∀ (ds : List D) (n : Nat) (acc : List D) (env : Env), (∀ (i : Nat) d acc env, ds[i]? = some d → I (n + i) acc env → (b d env).wp (afterL (I (n + i + 1)) acc) fun _ _ => False) → I n acc env → (∀ out env, I (n + ds.length) out env → Q out env) → (lcL b ds acc env).wp Q E
  | [], n, acc, env, _, i, q => by
    unfold lcL
    rw [wp_ok]
    exact q acc env i
  | d :: ds, n, acc, env, h, i, q => by
    obtain ⟨o, env', e, ho⟩ := wp_get (h 0 d acc env rfl i)
    have rest : ∀ acc env', I (n + 1) acc env' → (lcL b ds acc env').wp Q E := fun acc env' i' => wp_lcL I ds (n + 1) acc env' (fun j d' acc env hd hi => by
        have := h (j + 1) d' acc env (by simpa using hd) (by rw [show n + (j + 1) = n + 1 + j by omega]; exact hi)
        rw [show n + (j + 1) + 1 = n + 1 + j + 1 by omega] at this
        exact this) i' (fun out env hi => q out env (by rw [List.length_cons, show n + (ds.length + 1) = n + 1 + ds.length by omega]; exact hi))
    unfold lcL
    rw [e]
    cases o with
    | none => exact rest acc env' ho
    | some x =>
      show (if acc.length < sizeLine then lcL b ds (acc ++ [x]) env' else .no).wp Q E
      rw [if_pos ho.1]
      exact rest _ env' ho.2
/-- a comprehension: I n acc env ahead of turn n -/
theorem wp_lc {C : Cl} {own : List Nat} {p : Pt} {ifs : Oe} {e : E} {ds : List D} {env : Env} {Q : List D → Env → Prop} {E : X → Env → Prop} (I : Nat → List D → Env → Prop) (h0 : I 0 [] env) (hq : ∀ out env, I ds.length out env → Q out env) (hs : ∀ (i : Nat) d acc env, ds[i]? = some d → I i acc env → (lcT C own p ifs e d env).wp (afterL (I (i + 1)) acc) fun _ _ => False) : (lcL (lcT C own p ifs e) ds [] env).wp Q E :=
  wp_lcL I ds 0 [] env (fun i d acc env hd h => by rw [Nat.zero_add] at h ⊢; exact hs i d acc env hd h) h0 (fun out env h => hq out env (by rw [Nat.zero_add] at h; exact h))
/-- a comprehension without a change: the map -/
theorem wp_map {C : Cl} {own : List Nat} {p : Pt} {ifs : Oe} {e : E} {ds : List D} {env : Env} {Q : List D → Env → Prop} {E : X → Env → Prop} (f : D → D) (hl : ds.length ≤ 1000000) (hq : Q (ds.map f) env) (hs : ∀ d ∈ ds, (lcT C own p ifs e d env).wp (fun o env' => o = some (f d) ∧ env' = env) fun _ _ => False) : (lcL (lcT C own p ifs e) ds [] env).wp Q E := by
  refine wp_lc (fun n acc env' => env' = env ∧ acc = (ds.take n).map f ∧ n ≤ ds.length) ⟨rfl, by simp, Nat.zero_le _⟩ (fun out env' h => ?_) (fun i d acc env' hd h => ?_)
  · obtain ⟨rfl, rfl, _⟩ := h
    rw [List.take_length]; exact hq
  · obtain ⟨rfl, rfl, hn⟩ := h
    have hil := (List.getElem?_eq_some_iff.mp hd).1
    refine wp_mono (hs d (List.mem_of_getElem? hd)) (fun o env2 ⟨h1, h2⟩ => ?_) (fun _ _ z => z)
    subst h1 h2
    refine ⟨?_, rfl, ?_, hil⟩
    · rw [List.length_map, List.length_take]
      exact Nat.lt_of_lt_of_le (show _ < 1000001 by omega) (by decide)
    · rw [List.take_add_one, List.map_append, hd]; rfl
theorem wp_callK {C : Cl} {f : Nat} {sl : List (Option Nat)} {ts : List T} {env : Env} {Q : T → Env → Prop} {E : X → Env → Prop} (h1 : ioOk (C.io f) sl = true) (h : (C.call f ts).wp (fun t outs => Q t (putOuts (C.io f) outs sl env)) (fun x outs => E x (putOuts (C.io f) outs sl env))) : (callK C f sl ts env).wp Q E := by
  unfold callK
  rw [h1]
  show (match C.call f ts with
      | .ok t outs => (R.ok t (putOuts (C.io f) outs sl env) : R T)
      | .ex x outs => .ex x (putOuts (C.io f) outs sl env)
      | .no => .no).wp Q E
  cases hc : C.call f ts with
  | ok t outs => rw [hc, wp_ok] at h; simp only [wp_ok]; exact h
  | ex x outs => rw [hc, wp_ex] at h; simp only [wp_ex]; exact h
  | no => rw [hc, wp_no] at h; exact h.elim
/-- a def's run -/
def finQ (io : List Nat) (Q : T → Env → Prop) : Fl → Env → Prop
  | .nx, env => Q (.d .non) (outsOf io env)
  | .rt t, env => Q t (outsOf io env)
  | _, _ => False
theorem fin_qn (io : List Nat) (Q : T → Env → Prop) (env : Env) : finQ io Q .nx env = Q (.d .non) (outsOf io env) := (rfl)
theorem fin_qr (io : List Nat) (Q : T → Env → Prop) (t : T) (env : Env) : finQ io Q (.rt t) env = Q t (outsOf io env) := (rfl)
theorem wp_def {P : Tx} {k f : Nat} {fn : Fn} {ts : List T} {Q : T → Env → Prop} {E : X → Env → Prop} (hf : P.fns[f]? = some fn) (h1 : ts.length = fn.np) (ha : apart fn.io fn.body.asg = true) (h : (evSs ⟨P.call k, P.io, P.glob⟩ P.isa fn.body (ts.map some ++ List.replicate (fn.n - fn.np) none)).wp (finQ fn.io Q) (fun x env => E x (outsOf fn.io env))) : (P.call (k + 1) f ts).wp Q E := by
  rw [call_eq hf, runF_eq h1 ha]
  cases he : evSs ⟨P.call k, P.io, P.glob⟩ P.isa fn.body (ts.map some ++ List.replicate (fn.n - fn.np) none) with
  | ok f env => rw [he, wp_ok] at h; cases f with
    | nx => rw [fin_nx, wp_ok]; exact h
    | rt t => rw [fin_rt, wp_ok]; exact h
    | bk => exact h.elim
    | ct => exact h.elim
  | ex x env => rw [he, wp_ex] at h; rw [fin_ex, wp_ex]; exact h
  | no => rw [he, wp_no] at h; exact h.elim
end AM

set_option maxHeartbeats 8000000
/-! what == looks at: strings that lie well, a depth -/
namespace AM
open PySem
def Sh (n : Nat) (d : D) : Prop := d.toP.canLay0 = true ∧ d.toP.depth ≤ n
theorem Sh.mono {n m : Nat} {d : D} (h : Sh n d) (hm : n ≤ m) : Sh m d := ⟨h.1, Nat.le_trans h.2 hm⟩
theorem sh_all {n : Nat} : ∀ {ds : List D}, (∀ d ∈ ds, Sh n d) → PyData.canLayAll0 (toPs ds) = true ∧ PyData.depthAll (toPs ds) ≤ n
  | [], _ => ⟨rfl, Nat.zero_le _⟩
  | d :: ds, h => by
    obtain ⟨h1, h2⟩ := h d List.mem_cons_self
    obtain ⟨h3, h4⟩ := sh_all (ds := ds) fun e he => h e (List.mem_cons_of_mem _ he)
    rw [toPs, PyData.canLayAll0, PyData.depthAll, h1, h3]
    exact ⟨rfl, Nat.max_le.mpr ⟨h2, h4⟩⟩
theorem sh_tup {n : Nat} {ds : List D} (h : ∀ d ∈ ds, Sh n d) : Sh (n + 1) (.tup ds) := by
  obtain ⟨h1, h2⟩ := sh_all h
  unfold Sh
  rw [D.toP, PyData.canLay0, PyData.depth]
  exact ⟨h1, Nat.succ_le_succ h2⟩
theorem sh_lst {n : Nat} {ds : List D} (h : ∀ d ∈ ds, Sh n d) : Sh (n + 1) (.lst ds) := by
  obtain ⟨h1, h2⟩ := sh_all h
  unfold Sh
  rw [D.toP, PyData.canLay0, PyData.depth]
  exact ⟨h1, Nat.succ_le_succ h2⟩
theorem sh_int (i : Int) : Sh 0 (.int i) := ⟨rfl, Nat.le_refl _⟩
theorem sh_bl (b : Bool) : Sh 0 (.bl b) := ⟨rfl, Nat.le_refl _⟩
theorem sh_non : Sh 0 .non := ⟨rfl, Nat.le_refl _⟩
theorem sh_st {x : Str} (h : PyData.strOk x = true) : Sh 0 (.str x) := ⟨h, Nat.le_refl _⟩
theorem Sh.shaped {n : Nat} {d : D} (h : Sh n d) (hn : n ≤ 64) : SeqAt.shaped d.toP = true := by
  unfold SeqAt.shaped
  rw [h.1, decide_eq_true (Nat.le_trans h.2 hn)]
  rfl
theorem eq_self {n : Nat} {d : D} (h : Sh n d) (hn : n ≤ 64) : primF (.cmp .Eq) [d, d] = some (.d (.bl true)) := by
  rw [p_eqX, eqF_by (h.shaped hn) (h.shaped hn), SeqAt.eqv_refl _ h.1]
  rfl
theorem ne_self {n : Nat} {d : D} (h : Sh n d) (hn : n ≤ 64) : primF (.cmp .NotEq) [d, d] = some (.d (.bl false)) := by
  rw [p_neX, eqF_by (h.shaped hn) (h.shaped hn), SeqAt.eqv_refl _ h.1]
  rfl
end AM
namespace AM
open PySem
theorem q_tup (ds : List D) (h : ds.length ≤ 1000000) : primF .tup ds = some (.d (.tup ds)) := by rw [p_tup, if_pos (small_le h)]
theorem q_lst (ds : List D) (h : ds.length ≤ 1000000) : primF .lst ds = some (.l ds) := by rw [p_lst, if_pos (small_le h)]
theorem q_app {i : Nat} {ds : List D} {x : D} {env : Env} (h : ds.length ≤ 1000) (he : env.getD i none = some (.l ds)) : appR i x env = .ok .nx (env.set i (some (.l (ds ++ [x])))) := by
  unfold appR
  rw [he]
  show (if ds.length < sizeLine then (R.ok Fl.nx (env.set i (some (.l (ds ++ [x])))) : R Fl) else .no) = _
  rw [if_pos (Nat.lt_of_lt_of_le (Nat.lt_succ_of_le h) (small_le (by decide)))]
theorem wp_app {i : Nat} {ds : List D} {x : D} {env : Env} {Q : Fl → Env → Prop} {E : X → Env → Prop} (h : ds.length ≤ 1000) (he : env.getD i none = some (.l ds)) (hq : Q .nx (env.set i (some (.l (ds ++ [x]))))) : (appR i x env).wp Q E := by
  rw [q_app h he, wp_ok]; exact hq
/-- a call that changes nothing -/
theorem wp_pure {C : Cl} {f : Nat} {sl : List (Option Nat)} {ts : List T} {env : Env} {Q : T → Env → Prop} {E : X → Env → Prop} {t : T} (h : C.call f ts = .ok t []) (h1 : C.io f = []) (h2 : ioOk [] sl = true) (hq : Q t env) : (callK C f sl ts env).wp Q E := wp_of (callK_pure h1 h2 h) hq
/-- a call that changes its first argument -/
theorem wp_chg {C : Cl} {f i : Nat} {sl : List (Option Nat)} {ts : List T} {env : Env} {Q : T → Env → Prop} {E : X → Env → Prop} {t : T} {o : Option T} (h : C.call f ts = .ok t [o]) (h1 : C.io f = [0]) (h2 : ioOk [0] (some i :: sl) = true) (hq : Q t (env.set i o)) : (callK C f (some i :: sl) ts env).wp Q E := wp_of (callK_io h1 h2 h) hq
theorem rng_to (j : Nat) (h : j ≤ 1000000) : rngF [.int (j : Int)] = some ((List.range j).map fun (n : Nat) => .int n) := by
  simp only [rngF]
  rw [if_pos ⟨by omega, by omega⟩, Int.toNat_natCast]
theorem rng_at {j i : Nat} {d : D} (h : ((List.range j).map fun (n : Nat) => D.int n)[i]? = some d) : i < j ∧ d = .int i := by
  rw [List.getElem?_map] at h
  cases hr : (List.range j)[i]? with
  | none => rw [hr] at h; cases h
  | some m =>
    rw [hr] at h
    have hl := (List.getElem?_eq_some_iff.mp hr)
    obtain ⟨h1, h2⟩ := hl
    rw [List.length_range] at h1
    rw [List.getElem_range] at h2
    subst h2
    exact ⟨h1, (by simpa using h.symm)⟩
end AM
namespace AM
open PySem
theorem lcT_n {C : Cl} {own : List Nat} {ifs : Oe} {e : E} {d : D} {env : Env} (i : Nat) (h : i < env.length) : lcT C own (.name i) ifs e d env = (evO C ifs (env.set i (some (.d d)))).bi fun k env3 => cnd k ((evE C e env3).bi fun t env4 => .ok (some t.snap) (wipeE env4 own)) (.ok none (wipeE env3 own)) := lcT_p (by rw [bindPt, if_pos h])
end AM
namespace AM
open PySem
theorem io_of {P : Tx} {f : Nat} {fn : Fn} (hf : P.fns[f]? = some fn) : P.io f = fn.io := by
  unfold Tx.io
  rw [hf]
theorem wp_run {P : Tx} {k f : Nat} {fn : Fn} {sl : List (Option Nat)} {ts : List T} {env : Env} {Q : T → Env → Prop} {E : X → Env → Prop} (hf : P.fns[f]? = some fn) (h0 : ioOk fn.io sl = true) (h1 : ts.length = fn.np) (ha : apart fn.io fn.body.asg = true)
    (h : (evSs ⟨P.call k, P.io, P.glob⟩ P.isa fn.body (ts.map some ++ List.replicate (fn.n - fn.np) none)).wp (finQ fn.io fun t outs => Q t (putOuts fn.io outs sl env)) (fun x env' => E x (putOuts fn.io (outsOf fn.io env') sl env))) : (callK ⟨P.call (k + 1), P.io, P.glob⟩ f sl ts env).wp Q E := by
  have e : P.io f = fn.io := io_of hf
  refine wp_callK (C := ⟨P.call (k + 1), P.io, P.glob⟩) (by show ioOk (P.io f) sl = true; rw [e]; exact h0) ?_
  show (P.call (k + 1) f ts).wp (fun t outs => Q t (putOuts (P.io f) outs sl env)) (fun x outs => E x (putOuts (P.io f) outs sl env))
  rw [e]
  exact wp_def hf h1 ha h
end AM
namespace AM
theorem so_vw (i : Nat) : slotOf (.vw i) = some i := (rfl)
theorem so_cst (d : D) : slotOf (.cst d) = none := (rfl)
theorem so_var (i : Nat) : slotOf (.var i) = none := (rfl)
theorem so_glob (x : PySem.Str) : slotOf (.glob x) = none := (rfl)
theorem so_prim (p : Prim) (es : Es) : slotOf (.prim p es) = none := (rfl)
theorem so_sl (e : E) (a b : Oe) : slotOf (.sl e a b) = none := (rfl)
theorem so_and (a b : E) : slotOf (.and a b) = none := (rfl)
theorem so_or (a b : E) : slotOf (.or a b) = none := (rfl)
theorem so_not (a : E) : slotOf (.not a) = none := (rfl)
theorem so_ife (a b c : E) : slotOf (.ife a b c) = none := (rfl)
theorem so_one (a : E) : slotOf (.one a) = none := (rfl)
theorem so_tru (a : E) : slotOf (.tru a) = none := (rfl)
theorem so_chain (o1 o2 : PySem.CmpOp) (a b c : E) : slotOf (.chain o1 o2 a b c) = none := (rfl)
theorem so_call (f : Nat) (es : Es) : slotOf (.call f es) = none := (rfl)
theorem so_lc (own : List (PySem.Str × Nat)) (p : Pt) (it : It) (ifs : Oe) (e : E) : slotOf (.lc own p it ifs e) = none := (rfl)
theorem so_pop (i : Nat) (es : Es) : slotOf (.pop i es) = none := (rfl)
end AM
namespace AM
theorem items_l (ds : List D) : items (.lst ds) = some ds := (rfl)
theorem items_t (ds : List D) : items (.tup ds) = some ds := (rfl)
theorem slR_e (d : D) (lo hi : Option Int) (env : Env) : slR d lo hi env = someR (slF d lo hi) env := by
  unfold slR
  cases slF d lo hi <;> rfl
theorem sl_t (ds : List D) (lo hi : Option Int) : slF (.tup ds) lo hi = some (.d (.tup (cutG ds lo hi))) := (rfl)
theorem sl_l (ds : List D) (lo hi : Option Int) : slF (.lst ds) lo hi = some (.l (cutG ds lo hi)) := (rfl)
end AM
namespace AM
theorem wp_eq {α : Type} {r : R α} {a : α} {b : Env} (h : r.wp (fun t o => t = a ∧ o = b) fun _ _ => False) : r = .ok a b := by
  obtain ⟨t, o, e, rfl, rfl⟩ := wp_get h
  exact e
end AM
namespace AM
theorem e_globP {P : Tx} {x : PySem.Str} {d : D} (h : P.glob x = some d) (c : Nat → List T → R T) (env : Env) : evE ⟨c, P.io, P.glob⟩ (.glob x) env = .ok (.d d) env := e_glob _ env h
end AM
namespace AM
theorem q_addT (a b : List D) (h : a.length + b.length ≤ 1000000) : primF (.bin .Add) [.tup a, .tup b] = some (.d (.tup (a ++ b))) := by rw [p_addT, if_pos (small_le h)]
theorem q_addL (a b : List D) (h : a.length + b.length ≤ 1000000) : primF (.bin .Add) [.lst a, .lst b] = some (.l (a ++ b)) := by rw [p_addL, if_pos (small_le h)]
/-- one of some things, drawn -/
theorem wp_ix {L : List D} {r : Nat} {env : Env} {Q : T → Env → Prop} {E : X → Env → Prop} (p : D → Prop) (h : ∀ x ∈ L, p x) (hr : (r : Int) < L.length) (hq : ∀ x, p x → Q (.d x) env) : (someR (Option.map T.d (L2.atI L (r : Int))) env).wp Q E := by
  have hr' : r < L.length := by omega
  have e : L2.atI L (r : Int) = some L[r] := L2.atI_nat (List.getElem?_eq_getElem hr')
  rw [e]
  exact wp_of rfl (hq _ (h _ (List.getElem_mem hr')))
end AM

set_option maxHeartbeats 8000000
/-! the text in the core -/
namespace W
open AM
def top (i : Nat) : PySem.Stmt := PySem.Challenge.pw_fullbelts_k21_holdings_and_carries_refus.main.body.getD i (.Pass ⟨0, 0, 0, 0⟩)
def c_is_integer : Fn := ⟨1, 1, [],
  (.cons (.ret (.and (.prim (.bi .isinstance) (.cons (.vw 0) (.cons (.glob "int") .nil))) (.one (.not (.prim (.bi .isinstance) (.cons (.vw 0) (.cons (.glob "bool") .nil))))))) (.nil))⟩
def c_is_index : Fn := ⟨2, 2, [],
  (.cons (.ret (.and (.call 0 (.cons (.var 0) .nil)) (.one (.chain .LtE .Lt (.cst (.int 0)) (.var 0) (.var 1))))) (.nil))⟩
def c_are_lengths : Fn := ⟨1, 2, [],
  (.cons (.ife (.or (.not (.prim (.bi .isinstance) (.cons (.vw 0) (.cons (.glob "tuple") .nil)))) (.one (.not (.chain .LtE .LtE (.cst (.int 1)) (.prim (.bi .len) (.cons (.vw 0) .nil)) (.glob "MOST_BELTS")))))
  (.cons (.ret (.cst (.bl false))) (.nil))
  (.nil)) (.cons (.ife (.not (.prim (.bi .all) (.cons (.lc [("length", 1)] (.name 1) (.seq (.vw 0)) .no (.and (.call 0 (.cons (.var 1) .nil)) (.one (.chain .LtE .LtE (.cst (.int 1)) (.var 1) (.glob "MOST_ROOMS"))))) .nil)))
  (.cons (.ret (.cst (.bl false))) (.nil))
  (.nil)) (.cons (.ret (.prim (.cmp .LtE) (.cons (.prim (.bi .sum) (.cons (.vw 0) .nil)) (.cons (.glob "MOST_SIZE") .nil)))) (.nil))))⟩
def c_is_item : Fn := ⟨1, 1, [],
  (.cons (.ret (.or (.prim (.cmp .Is) (.cons (.vw 0) (.cons (.cst .non) .nil))) (.or (.prim (.bi .isinstance) (.cons (.vw 0) (.cons (.glob "str") .nil))) (.one (.call 0 (.cons (.var 0) .nil)))))) (.nil))⟩
def c_is_holding : Fn := ⟨1, 3, [],
  (.cons (.ife (.or (.not (.prim (.bi .isinstance) (.cons (.vw 0) (.cons (.glob "tuple") .nil)))) (.one (.not (.prim (.bi .all) (.cons (.lc [("row", 1)] (.name 1) (.seq (.vw 0)) .no (.prim (.bi .isinstance) (.cons (.vw 1) (.cons (.glob "tuple") .nil)))) .nil)))))
  (.cons (.ret (.cst (.bl false))) (.nil))
  (.nil)) (.cons (.ife (.not (.prim (.bi .all) (.cons (.lc [("row", 1)] (.name 1) (.seq (.vw 0)) .no (.prim (.bi .all) (.cons (.lc [("item", 2)] (.name 2) (.seq (.vw 1)) .no (.call 3 (.cons (.var 2) .nil))) .nil))) .nil)))
  (.cons (.ret (.cst (.bl false))) (.nil))
  (.nil)) (.cons (.ret (.call 2 (.cons (.prim (.bi .tuple) (.cons (.lc [("row", 1)] (.name 1) (.seq (.vw 0)) .no (.prim (.bi .len) (.cons (.vw 1) .nil))) .nil)) .nil))) (.nil))))⟩
def c_is_room_of : Fn := ⟨2, 2, [],
  (.cons (.ife (.or (.not (.prim (.bi .isinstance) (.cons (.vw 1) (.cons (.glob "tuple") .nil)))) (.or (.prim (.cmp .NotEq) (.cons (.prim (.bi .len) (.cons (.vw 1) .nil)) (.cons (.cst (.int 2)) .nil))) (.one (.not (.call 1 (.cons (.prim .ix (.cons (.vw 1) (.cons (.cst (.int 0)) .nil))) (.cons (.prim (.bi .len) (.cons (.vw 0) .nil)) .nil)))))))
  (.cons (.ret (.cst (.bl false))) (.nil))
  (.nil)) (.cons (.ret (.call 1 (.cons (.prim .ix (.cons (.vw 1) (.cons (.cst (.int 1)) .nil))) (.cons (.prim .ix (.cons (.vw 0) (.cons (.prim .ix (.cons (.vw 1) (.cons (.cst (.int 0)) .nil))) .nil))) .nil)))) (.nil)))⟩
def c_is_carry_of : Fn := ⟨2, 2, [],
  (.cons (.ife (.or (.not (.prim (.bi .isinstance) (.cons (.vw 1) (.cons (.glob "tuple") .nil)))) (.one (.prim (.cmp .NotEq) (.cons (.prim (.bi .len) (.cons (.vw 1) .nil)) (.cons (.cst (.int 2)) .nil)))))
  (.cons (.ret (.cst (.bl false))) (.nil))
  (.nil)) (.cons (.ret (.and (.call 5 (.cons (.var 0) (.cons (.prim .ix (.cons (.vw 1) (.cons (.cst (.int 0)) .nil))) .nil))) (.one (.call 1 (.cons (.prim .ix (.cons (.vw 1) (.cons (.cst (.int 1)) .nil))) (.cons (.prim (.bi .len) (.cons (.vw 0) .nil)) .nil)))))) (.nil)))⟩
def c_are_carries_of : Fn := ⟨2, 3, [],
  (.cons (.ret (.and (.prim (.cmp .LtE) (.cons (.prim (.bi .len) (.cons (.vw 1) .nil)) (.cons (.glob "MOST_CARRIES") .nil))) (.one (.prim (.bi .all) (.cons (.lc [("carry", 2)] (.name 2) (.seq (.vw 1)) .no (.call 6 (.cons (.var 0) (.cons (.var 2) .nil)))) .nil))))) (.nil))⟩
def c_put_in : Fn := ⟨3, 3, [],
  (.cons (.ret (.prim (.bin .Add) (.cons (.prim (.bin .Add) (.cons (.sl (.vw 0) .no (.yes (.var 1))) (.cons (.prim .tup (.cons (.prim (.bin .Add) (.cons (.prim .tup (.cons (.var 2) .nil)) (.cons (.sl (.prim .ix (.cons (.vw 0) (.cons (.vw 1) .nil))) .no (.yes (.prim .neg (.cons (.cst (.int 1)) .nil)))) .nil))) .nil)) .nil))) (.cons (.sl (.vw 0) (.yes (.prim (.bin .Add) (.cons (.vw 1) (.cons (.cst (.int 1)) .nil)))) .no) .nil)))) (.nil))⟩
def c_done : Fn := ⟨2, 5, [],
  (.cons (.fo (.tup (.cons (.tup (.cons (.name 3) (.cons (.name 4) .nil))) (.cons (.name 2) .nil))) (.seq (.vw 1)) (.cons (.frz 0) (.cons (.set 0 (.call 8 (.cons (.var 0) (.cons (.var 2) (.cons (.prim .ix (.cons (.prim .ix (.cons (.vw 0) (.cons (.vw 3) .nil))) (.cons (.vw 4) .nil))) .nil))))) (.nil)))) (.cons (.frz 0) (.cons (.ret (.var 0)) (.nil))))⟩
def c_put : Fn := ⟨3, 3, [],
  (.cons (.ife (.not (.call 4 (.cons (.var 0) .nil)))
  (.cons (.rais 1 .nil) (.nil))
  (.nil)) (.cons (.ife (.not (.call 1 (.cons (.var 1) (.cons (.prim (.bi .len) (.cons (.vw 0) .nil)) .nil))))
  (.cons (.rais 2 .nil) (.nil))
  (.nil)) (.cons (.ret (.call 8 (.cons (.var 0) (.cons (.var 1) (.cons (.var 2) .nil))))) (.nil))))⟩
def c_carried : Fn := ⟨2, 4, [],
  (.cons (.ife (.not (.call 4 (.cons (.var 0) .nil)))
  (.cons (.rais 1 .nil) (.nil))
  (.nil)) (.cons (.set 2 (.lc [("row", 3)] (.name 3) (.seq (.vw 0)) .no (.prim (.bi .len) (.cons (.vw 3) .nil)))) (.cons (.frz 2) (.cons (.ife (.or (.not (.prim (.bi .isinstance) (.cons (.vw 1) (.cons (.prim .tup (.cons (.glob "list") (.cons (.glob "tuple") .nil))) .nil)))) (.one (.not (.call 7 (.cons (.var 2) (.cons (.var 1) .nil))))))
  (.cons (.rais 3 .nil) (.nil))
  (.nil)) (.cons (.ret (.call 9 (.cons (.var 0) (.cons (.var 1) .nil)))) (.nil))))))⟩
def c__law_dice : Fn := ⟨1, 2, [],
  (.cons (.ret (.prim .lst (.cons (.lc [("_law_cell", 1)] (.name 1) (.seq (.sl (.vw 0) .no (.yes (.cst (.int 63))))) .no (.prim (.bi .abs) (.cons (.prim (.bi .int) (.cons (.vw 1) .nil)) .nil))) (.cons (.cst (.int 0)) (.cons (.cst (.int 0)) (.cons (.cst (.int 1)) (.cons (.cst (.int 0)) .nil))))))) (.nil))⟩
def c__law_draw : Fn := ⟨2, 5, [0],
  (.cons (.ife (.and (.prim (.cmp .Eq) (.cons (.prim .ix (.cons (.vw 0) (.cons (.cst (.int 2)) .nil))) (.cons (.cst (.int 0)) .nil))) (.one (.prim (.cmp .Lt) (.cons (.prim .ix (.cons (.vw 0) (.cons (.cst (.int 1)) .nil))) (.cons (.prim (.bi .len) (.cons (.prim .ix (.cons (.vw 0) (.cons (.cst (.int 0)) .nil))) .nil)) .nil)))))
  (.cons (.set 3 (.prim .ix (.cons (.prim .ix (.cons (.vw 0) (.cons (.cst (.int 0)) .nil))) (.cons (.prim .ix (.cons (.vw 0) (.cons (.cst (.int 1)) .nil))) .nil)))) (.cons (.setIx 0 (.cst (.int 1)) (.prim (.bin .Add) (.cons (.prim .ix (.cons (.vw 0) (.cons (.cst (.int 1)) .nil))) (.cons (.cst (.int 1)) .nil)))) (.cons (.ife (.prim (.cmp .GtE) (.cons (.vw 3) (.cons (.prim (.bin .Pow) (.cons (.cst (.int 10)) (.cons (.cst (.int 18)) .nil))) .nil)))
    (.cons (.setIx 0 (.cst (.int 2)) (.var 3)) (.nil))
    (.cons (.setIx 0 (.cst (.int 3)) (.prim (.bin .Mod) (.cons (.prim (.bi .int) (.cons (.prim (.bin .Add) (.cons (.prim (.bin .Add) (.cons (.prim (.bin .Mult) (.cons (.prim .ix (.cons (.vw 0) (.cons (.cst (.int 3)) .nil))) (.cons (.cst (.int 69621)) .nil))) (.cons (.prim (.bin .Mult) (.cons (.vw 3) (.cons (.cst (.int 40692)) .nil))) .nil))) (.cons (.prim .ix (.cons (.vw 0) (.cons (.cst (.int 1)) .nil))) .nil))) .nil)) (.cons (.cst (.int 2147483647)) .nil)))) (.nil))) (.nil))))
  (.nil)) (.cons (.ife (.prim (.cmp .Gt) (.cons (.prim .ix (.cons (.vw 0) (.cons (.cst (.int 2)) .nil))) (.cons (.cst (.int 0)) .nil)))
  (.cons (.set 4 (.prim (.bin .Mod) (.cons (.prim (.bi .int) (.cons (.prim .ix (.cons (.vw 0) (.cons (.cst (.int 2)) .nil))) .nil)) (.cons (.vw 1) .nil)))) (.cons (.setIx 0 (.cst (.int 2)) (.prim (.bin .FloorDiv) (.cons (.prim (.bi .int) (.cons (.prim .ix (.cons (.vw 0) (.cons (.cst (.int 2)) .nil))) .nil)) (.cons (.vw 1) .nil)))) (.cons (.ret (.var 4)) (.nil))))
  (.nil)) (.cons (.setIx 0 (.cst (.int 4)) (.prim (.bin .Add) (.cons (.prim .ix (.cons (.vw 0) (.cons (.cst (.int 4)) .nil))) (.cons (.cst (.int 1)) .nil)))) (.cons (.setIx 0 (.cst (.int 3)) (.prim (.bin .Mod) (.cons (.prim (.bi .int) (.cons (.prim (.bin .Add) (.cons (.prim (.bin .Add) (.cons (.prim (.bin .Mult) (.cons (.prim .ix (.cons (.vw 0) (.cons (.cst (.int 3)) .nil))) (.cons (.cst (.int 48271)) .nil))) (.cons (.prim (.bin .Mult) (.cons (.prim .ix (.cons (.vw 0) (.cons (.cst (.int 4)) .nil))) (.cons (.cst (.int 7919)) .nil))) .nil))) (.cons (.cst (.int 1)) .nil))) .nil)) (.cons (.cst (.int 2147483647)) .nil)))) (.cons (.set 2 (.prim (.bin .Mod) (.cons (.prim (.bi .int) (.cons (.prim (.bin .Mult) (.cons (.prim .ix (.cons (.vw 0) (.cons (.cst (.int 3)) .nil))) (.cons (.prim (.bin .Add) (.cons (.prim (.bin .FloorDiv) (.cons (.prim .ix (.cons (.vw 0) (.cons (.cst (.int 3)) .nil))) (.cons (.cst (.int 1009)) .nil))) (.cons (.cst (.int 69623)) .nil))) .nil))) .nil)) (.cons (.cst (.int 2147483399)) .nil)))) (.cons (.set 2 (.prim (.bin .Mod) (.cons (.prim (.bi .int) (.cons (.prim (.bin .Mult) (.cons (.vw 2) (.cons (.prim (.bin .Add) (.cons (.prim (.bin .FloorDiv) (.cons (.vw 2) (.cons (.cst (.int 2003)) .nil))) (.cons (.cst (.int 40693)) .nil))) .nil))) .nil)) (.cons (.cst (.int 2147483563)) .nil)))) (.cons (.ret (.prim (.bin .Mod) (.cons (.prim (.bi .int) (.cons (.prim (.bin .FloorDiv) (.cons (.vw 2) (.cons (.cst (.int 16)) .nil))) .nil)) (.cons (.vw 1) .nil)))) (.nil))))))))⟩
def c__law_lengths : Fn := ⟨3, 7, [0],
  (.cons (.set 3 (.prim (.bin .Add) (.cons (.vw 1) (.cons (.call 13 (.cons (.vw 0) (.cons (.prim (.bin .Add) (.cons (.prim (.bin .Sub) (.cons (.vw 2) (.cons (.vw 1) .nil))) (.cons (.cst (.int 1)) .nil))) .nil))) .nil)))) (.cons (.set 4 (.prim .lst .nil)) (.cons (.fo (.name 5) (.rng (.cons (.cst (.int 5)) .nil)) (.cons (.ife (.prim (.cmp .Gt) (.cons (.vw 3) (.cons (.cst (.int 0)) .nil)))
  (.cons (.set 6 (.prim (.bin .Add) (.cons (.cst (.int 1)) (.cons (.call 13 (.cons (.vw 0) (.cons (.prim (.bi .min) (.cons (.vw 3) (.cons (.cst (.int 8)) .nil))) .nil))) .nil)))) (.cons (.app 4 (.var 6)) (.cons (.set 3 (.prim (.bin .Sub) (.cons (.vw 3) (.cons (.vw 6) .nil)))) (.nil))))
  (.nil)) (.nil))) (.cons (.ife (.prim (.cmp .Gt) (.cons (.vw 3) (.cons (.cst (.int 0)) .nil)))
  (.cons (.app 4 (.prim (.bi .min) (.cons (.vw 3) (.cons (.cst (.int 8)) .nil)))) (.nil))
  (.nil)) (.cons (.ret (.prim (.bi .tuple) (.cons (.vw 4) .nil))) (.nil))))))⟩
def c__law_room : Fn := ⟨2, 3, [0],
  (.cons (.set 2 (.call 13 (.cons (.vw 0) (.cons (.prim (.bi .len) (.cons (.vw 1) .nil)) .nil)))) (.cons (.ret (.prim .tup (.cons (.var 2) (.cons (.call 13 (.cons (.vw 0) (.cons (.prim .ix (.cons (.vw 1) (.cons (.vw 2) .nil))) .nil))) .nil)))) (.nil)))⟩
def b__law_holding_0 : Ss := (.cons (.app 4 (.prim .ix (.cons (.prim .lst (.cons (.cst .non) (.cons (.cst (.str "x")) (.cons (.cst (.str "y")) (.cons (.cst (.str "zz")) (.cons (.cst (.str "")) (.cons (.cst (.int 0)) (.cons (.cst (.int 1)) (.cons (.prim .neg (.cons (.cst (.int 5)) .nil)) (.cons (.prim (.bin .Pow) (.cons (.cst (.int 10)) (.cons (.cst (.int 40)) .nil))) (.cons (.cst (.str "X 1")) .nil))))))))))) (.cons (.call 13 (.cons (.vw 0) (.cons (.cst (.int 10)) .nil))) .nil)))) (.nil))
def b__law_holding_1 : Ss := (.cons (.set 4 (.prim .lst .nil)) (.cons (.fo (.name 5) (.rng (.cons (.vw 3) .nil)) b__law_holding_0) (.cons (.app 2 (.prim (.bi .tuple) (.cons (.vw 4) .nil))) (.nil))))
def c__law_holding : Fn := ⟨2, 6, [0],
  (.cons (.set 2 (.prim .lst .nil)) (.cons (.fo (.name 3) (.seq (.vw 1)) b__law_holding_1) (.cons (.ret (.prim (.bi .tuple) (.cons (.vw 2) .nil))) (.nil))))⟩
def c__law_put_told : Fn := ⟨2, 3, [],
  (.cons (.set 2 (.cst (.str "let"))) (.cons (.tr (.cons (.exp (.call 10 (.cons (.var 0) (.cons (.var 1) (.cons (.cst (.str "x")) .nil))))) (.nil))
  (.cons 1 none (.cons (.set 2 (.cst (.str "holding"))) (.nil)) (.cons 2 none (.cons (.set 2 (.cst (.str "belt"))) (.nil)) .nil))) (.cons (.ret (.var 2)) (.nil))))⟩
def c__law_carried_told : Fn := ⟨2, 3, [],
  (.cons (.set 2 (.cst (.str "let"))) (.cons (.tr (.cons (.exp (.call 11 (.cons (.var 0) (.cons (.var 1) .nil)))) (.nil))
  (.cons 1 none (.cons (.set 2 (.cst (.str "holding"))) (.nil)) (.cons 3 none (.cons (.set 2 (.cst (.str "carries"))) (.nil)) .nil))) (.cons (.ret (.var 2)) (.nil))))⟩
def c__law_no_holding : Fn := ⟨2, 7, [0],
  (.cons (.set 2 (.call 13 (.cons (.vw 0) (.cons (.prim (.bi .len) (.cons (.vw 1) .nil)) .nil)))) (.cons (.set 3 (.prim .ix (.cons (.prim .lst (.cons (.cst (.bl true)) (.cons (.prim .tup .nil) (.cons (.prim .lst (.cons (.cst (.int 1)) .nil)) (.cons (.prim .dic .nil) (.cons (.prim .tup (.cons (.cst (.str "x")) .nil)) (.cons (.cst (.bl false)) .nil))))))) (.cons (.call 13 (.cons (.vw 0) (.cons (.cst (.int 6)) .nil))) .nil)))) (.cons (.set 4 (.prim .ix (.cons (.vw 1) (.cons (.vw 2) .nil)))) (.cons (.set 5 (.call 13 (.cons (.vw 0) (.cons (.prim (.bi .len) (.cons (.vw 4) .nil)) .nil)))) (.cons (.set 6 (.prim .lst (.cons (.prim (.bi .list) (.cons (.vw 1) .nil)) (.cons (.prim .tup .nil) (.cons (.cst .non) (.cons (.cst (.str "xy")) (.cons (.prim .dic .nil) (.cons (.cst (.int 0)) (.cons (.prim (.bin .Add) (.cons (.prim (.bin .Add) (.cons (.sl (.vw 1) .no (.yes (.var 2))) (.cons (.prim .tup (.cons (.prim (.bi .list) (.cons (.vw 4) .nil)) .nil)) .nil))) (.cons (.sl (.vw 1) (.yes (.prim (.bin .Add) (.cons (.vw 2) (.cons (.cst (.int 1)) .nil)))) .no) .nil))) .nil))))))))) (.cons (.set 6 (.prim (.bin .Add) (.cons (.vw 6) (.cons (.prim .lst (.cons (.prim (.bin .Add) (.cons (.prim (.bin .Add) (.cons (.sl (.vw 1) .no (.yes (.var 2))) (.cons (.prim .tup (.cons (.prim (.bin .Add) (.cons (.prim (.bin .Add) (.cons (.sl (.vw 4) .no (.yes (.var 5))) (.cons (.prim .tup (.cons (.var 3) .nil)) .nil))) (.cons (.sl (.vw 4) (.yes (.prim (.bin .Add) (.cons (.vw 5) (.cons (.cst (.int 1)) .nil)))) .no) .nil))) .nil)) .nil))) (.cons (.sl (.vw 1) (.yes (.prim (.bin .Add) (.cons (.vw 2) (.cons (.cst (.int 1)) .nil)))) .no) .nil))) .nil)) .nil)))) (.cons (.set 6 (.prim (.bin .Add) (.cons (.vw 6) (.cons (.prim .lst (.cons (.prim (.bin .Add) (.cons (.prim (.bin .Add) (.cons (.sl (.vw 1) .no (.yes (.var 2))) (.cons (.prim .tup (.cons (.prim .tup .nil) .nil)) .nil))) (.cons (.sl (.vw 1) (.yes (.prim (.bin .Add) (.cons (.vw 2) (.cons (.cst (.int 1)) .nil)))) .no) .nil))) (.cons (.prim .tup (.cons (.prim (.bin .Mult) (.cons (.prim .tup (.cons (.cst .non) .nil)) (.cons (.cst (.int 9)) .nil))) .nil)) (.cons (.prim .tup (.cons (.prim (.bin .Mult) (.cons (.prim .tup (.cons (.cst .non) .nil)) (.cons (.cst (.int 7)) .nil))) (.cons (.prim (.bin .Mult) (.cons (.prim .tup (.cons (.cst .non) .nil)) (.cons (.cst (.int 6)) .nil))) .nil))) (.cons (.prim (.bin .Mult) (.cons (.prim .tup (.cons (.prim .tup (.cons (.cst .non) .nil)) .nil)) (.cons (.cst (.int 7)) .nil))) .nil))))) .nil)))) (.cons (.ret (.prim .ix (.cons (.vw 6) (.cons (.call 13 (.cons (.vw 0) (.cons (.prim (.bi .len) (.cons (.vw 6) .nil)) .nil))) .nil)))) (.nil)))))))))⟩
def c__law_no_carry : Fn := ⟨2, 5, [0],
  (.cons (.set 2 (.call 13 (.cons (.vw 0) (.cons (.prim (.bi .len) (.cons (.vw 1) .nil)) .nil)))) (.cons (.set 3 (.prim .ix (.cons (.prim .lst (.cons (.prim (.bi .len) (.cons (.vw 1) .nil)) (.cons (.prim .neg (.cons (.cst (.int 1)) .nil)) (.cons (.cst (.bl true)) (.cons (.cst .non) (.cons (.cst (.str "0")) (.cons (.prim .tup (.cons (.cst (.int 0)) .nil)) .nil))))))) (.cons (.call 13 (.cons (.vw 0) (.cons (.cst (.int 6)) .nil))) .nil)))) (.cons (.set 4 (.prim .lst (.cons (.prim .tup (.cons (.prim .tup (.cons (.var 2) (.cons (.prim .ix (.cons (.vw 1) (.cons (.vw 2) .nil))) .nil))) (.cons (.cst (.int 0)) .nil))) (.cons (.prim .tup (.cons (.prim .tup (.cons (.var 2) (.cons (.prim .neg (.cons (.cst (.int 1)) .nil)) .nil))) (.cons (.cst (.int 0)) .nil))) (.cons (.prim .tup (.cons (.prim .tup (.cons (.var 2) (.cons (.cst (.int 0)) .nil))) (.cons (.var 3) .nil))) (.cons (.prim .tup (.cons (.prim .tup (.cons (.var 3) (.cons (.cst (.int 0)) .nil))) (.cons (.cst (.int 0)) .nil))) (.cons (.prim .tup (.cons (.prim .tup (.cons (.var 2) (.cons (.cst (.int 0)) .nil))) .nil)) (.cons (.prim .lst (.cons (.prim .tup (.cons (.var 2) (.cons (.cst (.int 0)) .nil))) (.cons (.cst (.int 0)) .nil))) .nil)))))))) (.cons (.set 4 (.prim (.bin .Add) (.cons (.vw 4) (.cons (.prim .lst (.cons (.prim .tup (.cons (.prim .lst (.cons (.var 2) (.cons (.cst (.int 0)) .nil))) (.cons (.cst (.int 0)) .nil))) (.cons (.prim .tup (.cons (.prim .tup (.cons (.var 2) (.cons (.cst (.bl true)) .nil))) (.cons (.cst (.int 0)) .nil))) (.cons (.prim .tup (.cons (.prim .tup (.cons (.var 2) (.cons (.cst (.int 0)) (.cons (.cst (.int 0)) .nil)))) (.cons (.cst (.int 0)) .nil))) (.cons (.cst .non) (.cons (.cst (.str "00")) (.cons (.prim .tup (.cons (.prim .tup (.cons (.var 2) (.cons (.cst (.int 0)) .nil))) (.cons (.cst (.int 0)) (.cons (.cst (.int 0)) .nil)))) (.cons (.prim .tup (.cons (.cst (.int 0)) (.cons (.cst (.int 0)) .nil))) .nil)))))))) .nil)))) (.cons (.ret (.prim .ix (.cons (.vw 4) (.cons (.call 13 (.cons (.vw 0) (.cons (.prim (.bi .len) (.cons (.vw 4) .nil)) .nil))) .nil)))) (.nil))))))⟩
def b_law_0 : Ss := (.cons (.set 5 (.call 19 (.cons (.vw 1) (.cons (.var 3) .nil)))) (.cons (.ife (.or (.prim (.cmp .NotEq) (.cons (.call 17 (.cons (.var 5) (.cons (.cst .non) .nil))) (.cons (.cst (.str "holding")) .nil))) (.one (.prim (.cmp .NotEq) (.cons (.call 18 (.cons (.var 5) (.cons (.cst .non) .nil))) (.cons (.cst (.str "holding")) .nil)))))
  (.cons (.ret (.cst (.bl false))) (.nil))
  (.nil)) (.cons (.set 6 (.prim .ix (.cons (.prim .lst (.cons (.prim (.bi .len) (.cons (.vw 2) .nil)) (.cons (.prim .neg (.cons (.cst (.int 1)) .nil)) (.cons (.cst (.bl true)) (.cons (.cst .non) (.cons (.cst (.str "0")) (.cons (.prim .tup (.cons (.cst (.int 0)) .nil)) (.cons (.prim .lst (.cons (.cst (.int 0)) .nil)) (.cons (.prim (.bin .Pow) (.cons (.cst (.int 10)) (.cons (.cst (.int 20)) .nil))) (.cons (.cst (.bl false)) .nil)))))))))) (.cons (.call 13 (.cons (.vw 1) (.cons (.cst (.int 9)) .nil))) .nil)))) (.cons (.ife (.or (.prim (.cmp .NotEq) (.cons (.call 17 (.cons (.var 3) (.cons (.var 6) .nil))) (.cons (.cst (.str "belt")) .nil))) (.one (.prim (.cmp .NotEq) (.cons (.call 17 (.cons (.var 3) (.cons (.call 13 (.cons (.vw 1) (.cons (.prim (.bi .len) (.cons (.vw 2) .nil)) .nil))) .nil))) (.cons (.cst (.str "let")) .nil)))))
  (.cons (.ret (.cst (.bl false))) (.nil))
  (.nil)) (.cons (.set 7 (.lc [("_law_k", 11)] (.name 11) (.rng (.cons (.call 13 (.cons (.vw 1) (.cons (.cst (.int 5)) .nil))) .nil)) .no (.prim .tup (.cons (.call 15 (.cons (.vw 1) (.cons (.var 2) .nil))) (.cons (.call 13 (.cons (.vw 1) (.cons (.prim (.bi .len) (.cons (.vw 2) .nil)) .nil))) .nil))))) (.cons (.set 8 (.call 13 (.cons (.vw 1) (.cons (.prim (.bin .Add) (.cons (.prim (.bi .len) (.cons (.vw 7) .nil)) (.cons (.cst (.int 1)) .nil))) .nil)))) (.cons (.set 9 (.prim (.bin .Add) (.cons (.prim (.bin .Add) (.cons (.sl (.vw 7) .no (.yes (.var 8))) (.cons (.prim .lst (.cons (.call 20 (.cons (.vw 1) (.cons (.var 2) .nil))) .nil)) .nil))) (.cons (.sl (.vw 7) (.yes (.var 8)) .no) .nil)))) (.cons (.frz 9) (.cons (.set 10 (.prim .ix (.cons (.prim .lst (.cons (.var 9) (.cons (.prim (.bi .tuple) (.cons (.vw 9) .nil)) (.cons (.cst .non) (.cons (.cst (.str "")) (.cons (.prim .dic .nil) (.cons (.cst (.int 0)) (.cons (.cst (.bl true)) (.cons (.prim (.bin .Mult) (.cons (.prim .lst (.cons (.prim .tup (.cons (.prim .tup (.cons (.cst (.int 0)) (.cons (.cst (.int 0)) .nil))) (.cons (.cst (.int 0)) .nil))) .nil)) (.cons (.cst (.int 1001)) .nil))) .nil))))))))) (.cons (.call 13 (.cons (.vw 1) (.cons (.cst (.int 8)) .nil))) .nil)))) (.cons (.frz 7) (.cons (.ife (.or (.prim (.cmp .NotEq) (.cons (.call 18 (.cons (.var 3) (.cons (.var 10) .nil))) (.cons (.cst (.str "carries")) .nil))) (.one (.prim (.cmp .NotEq) (.cons (.call 18 (.cons (.var 3) (.cons (.var 7) .nil))) (.cons (.cst (.str "let")) .nil)))))
  (.cons (.ret (.cst (.bl false))) (.nil))
  (.nil)) (.nil))))))))))))
def c_law : Fn := ⟨1, 12, [],
  (.cons (.set 1 (.call 12 (.cons (.var 0) .nil))) (.cons (.set 2 (.call 14 (.cons (.vw 1) (.cons (.cst (.int 1)) (.cons (.cst (.int 12)) .nil))))) (.cons (.set 3 (.call 16 (.cons (.vw 1) (.cons (.var 2) .nil)))) (.cons (.fo (.name 4) (.rng (.cons (.cst (.int 6)) .nil)) b_law_0) (.cons (.ret (.and (.prim (.cmp .Eq) (.cons (.call 18 (.cons (.var 3) (.cons (.prim (.bin .Mult) (.cons (.prim .lst (.cons (.prim .tup (.cons (.prim .tup (.cons (.cst (.int 0)) (.cons (.cst (.int 0)) .nil))) (.cons (.cst (.int 0)) .nil))) .nil)) (.cons (.cst (.int 1000)) .nil))) .nil))) (.cons (.cst (.str "let")) .nil))) (.one (.prim (.cmp .Eq) (.cons (.call 18 (.cons (.var 3) (.cons (.prim .tup .nil) .nil))) (.cons (.cst (.str "let")) .nil)))))) (.nil))))))⟩
def isaB : List (List Bool) := [[true, false, false, false], [true, true, false, false], [true, false, true, false], [true, false, false, true]]
def isa (a b : Nat) : Bool := (isaB.getD a []).getD b false
def gi : List (PySem.Str × Int) := [("MOST_BELTS", 6), ("MOST_CARRIES", 1000), ("MOST_ROOMS", 8), ("MOST_SIZE", 12)]
def fr : List PySem.Str := ["abs", "all", "bool", "int", "isinstance", "len", "list", "min", "range", "str", "sum", "tuple"]
def G : Ck := ⟨["is_integer", "is_index", "are_lengths", "is_item", "is_holding", "is_room_of", "is_carry_of", "are_carries_of", "put_in", "done", "put", "carried", "_law_dice", "_law_draw", "_law_lengths", "_law_room", "_law_holding", "_law_put_told", "_law_carried_told", "_law_no_holding", "_law_no_carry", "law"], fr, ["MOST_BELTS", "MOST_CARRIES", "MOST_ROOMS", "MOST_SIZE", "bool", "int", "list", "str", "tuple"], ["BeltsError", "NoHolding", "NoBelt", "NoCarries"], [0, 1, 2, 3]⟩
def P : Tx := ⟨[c_is_integer, c_is_index, c_are_lengths, c_is_item, c_is_holding, c_is_room_of, c_is_carry_of, c_are_carries_of, c_put_in, c_done, c_put, c_carried, c__law_dice, c__law_draw, c__law_lengths, c__law_room, c__law_holding, c__law_put_told, c__law_carried_told, c__law_no_holding, c__law_no_carry, c_law], globF gi fr, isa⟩
def ds : List Dn := [⟨"is_integer", ["thing"], top 6⟩,
  ⟨"is_index", ["thing", "many"], top 7⟩,
  ⟨"are_lengths", ["thing", "length"], top 13⟩,
  ⟨"is_item", ["thing"], top 14⟩,
  ⟨"is_holding", ["thing", "row", "item"], top 15⟩,
  ⟨"is_room_of", ["lengths", "thing"], top 16⟩,
  ⟨"is_carry_of", ["lengths", "thing"], top 17⟩,
  ⟨"are_carries_of", ["lengths", "thing", "carry"], top 18⟩,
  ⟨"put_in", ["holding", "belt", "thing"], top 19⟩,
  ⟨"done", ["holding", "carries", "goal", "belt", "room"], top 20⟩,
  ⟨"put", ["holding", "belt", "thing"], top 21⟩,
  ⟨"carried", ["holding", "carries", "lengths", "row"], top 22⟩,
  ⟨"_law_dice", ["_law_script", "_law_cell"], top 24⟩,
  ⟨"_law_draw", ["_law_dice_here", "_law_sides", "_law_mixed", "_law_cell", "_law_digit"], top 25⟩,
  ⟨"_law_lengths", ["_law_dice_here", "_law_low", "_law_high", "_law_left", "_law_found", "_law_k", "_law_length"], top 26⟩,
  ⟨"_law_room", ["_law_dice_here", "_law_lengths_here", "_law_belt"], top 27⟩,
  ⟨"_law_holding", ["_law_dice_here", "_law_lengths_here", "_law_rows", "_law_length", "_law_items", "_law_k"], top 28⟩,
  ⟨"_law_put_told", ["_law_holding_here", "_law_belt", "_law_told"], top 29⟩,
  ⟨"_law_carried_told", ["_law_holding_here", "_law_carries", "_law_told"], top 30⟩,
  ⟨"_law_no_holding", ["_law_dice_here", "_law_holding_here", "_law_spot", "_law_odd", "_law_row", "_law_room_here", "_law_things"], top 31⟩,
  ⟨"_law_no_carry", ["_law_dice_here", "_law_lengths_here", "_law_belt", "_law_wrong", "_law_things"], top 32⟩,
  ⟨"law", ["_law_script", "_law_dice_here", "_law_lengths_here", "_law_holding_here", "_law_turn", "_law_wrong", "_law_belt", "_law_carries", "_law_spot", "_law_bent", "_law_thing", "_law_k"], top 33⟩]
def txt : Txt := ⟨P, G, ds, gi⟩
end W

/-! the program's defs -/
namespace W
open AM PySem
theorem g_int : P.glob "int" = some (.ty "int") := by rfl
theorem g_bool : P.glob "bool" = some (.ty "bool") := by rfl
theorem g_str : P.glob "str" = some (.ty "str") := by rfl
theorem g_tuple : P.glob "tuple" = some (.ty "tuple") := by rfl
theorem g_list : P.glob "list" = some (.ty "list") := by rfl
theorem g_belts : P.glob "MOST_BELTS" = some (.int 6) := by rfl
theorem g_rooms : P.glob "MOST_ROOMS" = some (.int 8) := by rfl
theorem g_size : P.glob "MOST_SIZE" = some (.int 12) := by rfl
theorem g_carries : P.glob "MOST_CARRIES" = some (.int 1000) := by rfl
/-- values whose kind isinstance knows -/
def isStr : D → Bool
  | .str _ => true
  | _ => false
def isTp : D → Bool
  | .tup _ => true
  | _ => false
def isLs : D → Bool
  | .lst _ => true
  | _ => false
def isBo : D → Bool
  | .bl _ => true
  | _ => false
def known (d : D) : Bool := (tagOf d).isSome
theorem i_int {d : D} (h : known d = true) : primF (.bi .isinstance) [d, .ty "int"] = some (.d (.bl (d.isInt || isBo d))) := by
  cases d <;> first | rfl | (cases h; done) | decide +kernel
theorem i_bool {d : D} (h : known d = true) : primF (.bi .isinstance) [d, .ty "bool"] = some (.d (.bl (isBo d))) := by
  cases d <;> first | rfl | (cases h; done) | decide +kernel
theorem i_str {d : D} (h : known d = true) : primF (.bi .isinstance) [d, .ty "str"] = some (.d (.bl (isStr d))) := by
  cases d <;> first | rfl | (cases h; done) | decide +kernel
theorem i_tuple {d : D} (h : known d = true) : primF (.bi .isinstance) [d, .ty "tuple"] = some (.d (.bl (isTp d))) := by
  cases d <;> first | rfl | (cases h; done) | decide +kernel
theorem i_lt {d : D} (h : known d = true) : primF (.bi .isinstance) [d, .tup [.ty "list", .ty "tuple"]] = some (.d (.bl (isLs d || isTp d))) := by
  cases d <;> first | rfl | (cases h; done) | decide +kernel
theorem is_integer_ok (k : Nat) {d : D} (h : known d = true) : P.call (k + 1) 0 [.d d] = .ok (.d (.bl d.isInt)) [] := by
  rw [call_eq (fn := c_is_integer) rfl, runF_eq rfl rfl]
  simp only [c_is_integer, List.map_cons, List.map_nil, List.replicate, List.cons_append, List.nil_append, evSs, evS, evE, evEs, opd, slotOf, Es.slots, bindR_ok, bindR_ex, bl_ok, setS, snap_d, snap_l, p_add, p_sub, p_mul, p_mod, p_div, p_pow18, p_lt, p_le, p_gt, p_ge, p_eq, p_ne, p_ixL, p_ixT, p_neg, p_lenL, p_lenT, p_int, p_abs, p_min, p_max, List.getD_cons_zero, List.getD_cons_succ, List.getD_nil, List.set_cons_zero, List.set_cons_succ, List.length_cons, List.length_nil, List.length_set, Option.map_some, decide_eq_true_eq, decide_true, decide_false, if_true, if_false, and_self, fin_rt, fin_nx, outsOf, Bool.false_eq_true, Nat.reduceSub, Nat.reduceAdd, Nat.reduceLT, Int.reduceNeg, Int.reducePow, Int.reduceLT, or_true, true_or, at0, at1, at2, at3, at4, put1, put2, put3, put4, evI, evP, evO, evA, slR, items, It.lk, ownIx, wipeE, backE, Option.toList, bindPt, bindPts, Es.lk, p_lst, p_tup, p_tupL, p_tupT, p_listL, p_listT, p_addT, p_addL, p_dic, List.append_nil, Bool.true_and, Bool.and_true, Bool.not_true, Bool.not_false, g_int, g_bool, i_int h, i_bool h]
  cases d <;> first | rfl | (cases h; done)
def idxB (d : D) (n : Int) : Bool := match d with
  | .int i => decide (0 ≤ i) && decide (i < n)
  | _ => false
theorem cmp_le (i j : Int) : cmpF .LtE (.int i) (.int j) = some (decide (i ≤ j)) := rfl
theorem cmp_lt (i j : Int) : cmpF .Lt (.int i) (.int j) = some (decide (i < j)) := rfl
theorem pcall (k f : Nat) (es : List (Option Nat)) (ts : List T) (env : AM.Env) (t : T) (h1 : P.io f = []) (h2 : ioOk [] es = true) (h : P.call k f ts = .ok t []) : callK ⟨P.call k, P.io, P.glob⟩ f es ts env = .ok t env := callK_pure h1 h2 h
theorem is_index_ok (k : Nat) {d : D} {n : Int} (h : known d = true) : P.call (k + 2) 1 [.d d, .d (.int n)] = .ok (.d (.bl (idxB d n))) [] := by
  rw [call_eq (fn := c_is_index) rfl, runF_eq rfl rfl]
  simp only [c_is_index, List.map_cons, List.map_nil, List.replicate, List.cons_append, List.nil_append, evSs, evS, evE, evEs, opd, slotOf, Es.slots, bindR_ok, bindR_ex, bl_ok, setS, snap_d, snap_l, p_add, p_sub, p_mul, p_mod, p_div, p_pow18, p_lt, p_le, p_gt, p_ge, p_eq, p_ne, p_ixL, p_ixT, p_neg, p_lenL, p_lenT, p_int, p_abs, p_min, p_max, List.getD_cons_zero, List.getD_cons_succ, List.getD_nil, List.set_cons_zero, List.set_cons_succ, List.length_cons, List.length_nil, List.length_set, Option.map_some, decide_eq_true_eq, decide_true, decide_false, if_true, if_false, and_self, fin_rt, fin_nx, outsOf, Bool.false_eq_true, Nat.reduceSub, Nat.reduceAdd, Nat.reduceLT, Int.reduceNeg, Int.reducePow, Int.reduceLT, or_true, true_or, at0, at1, at2, at3, at4, put1, put2, put3, put4, evI, evP, evO, evA, slR, items, It.lk, ownIx, wipeE, backE, Option.toList, bindPt, bindPts, Es.lk, p_lst, p_tup, p_tupL, p_tupT, p_listL, p_listT, p_addT, p_addL, p_dic, List.append_nil, Bool.true_and, Bool.and_true, Bool.not_true, Bool.not_false, pcall (k + 1) 0 [none] _ _ _ rfl rfl (is_integer_ok k h)]
  cases d with
  | int i =>
    simp only [D.isInt, List.map_cons, List.map_nil, List.replicate, List.cons_append, List.nil_append, evSs, evS, evE, evEs, opd, slotOf, Es.slots, bindR_ok, bindR_ex, bl_ok, setS, snap_d, snap_l, p_add, p_sub, p_mul, p_mod, p_div, p_pow18, p_lt, p_le, p_gt, p_ge, p_eq, p_ne, p_ixL, p_ixT, p_neg, p_lenL, p_lenT, p_int, p_abs, p_min, p_max, List.getD_cons_zero, List.getD_cons_succ, List.getD_nil, List.set_cons_zero, List.set_cons_succ, List.length_cons, List.length_nil, List.length_set, Option.map_some, decide_eq_true_eq, decide_true, decide_false, if_true, if_false, and_self, fin_rt, fin_nx, outsOf, Bool.false_eq_true, Nat.reduceSub, Nat.reduceAdd, Nat.reduceLT, Int.reduceNeg, Int.reducePow, Int.reduceLT, or_true, true_or, at0, at1, at2, at3, at4, put1, put2, put3, put4, evI, evP, evO, evA, slR, items, It.lk, ownIx, wipeE, backE, Option.toList, bindPt, bindPts, Es.lk, p_lst, p_tup, p_tupL, p_tupT, p_listL, p_listT, p_addT, p_addL, p_dic, List.append_nil, Bool.true_and, Bool.and_true, Bool.not_true, Bool.not_false, cmp_le, cmp_lt]
    by_cases h0 : 0 ≤ i
    · simp only [h0, List.map_cons, List.map_nil, List.replicate, List.cons_append, List.nil_append, evSs, evS, evE, evEs, opd, slotOf, Es.slots, bindR_ok, bindR_ex, bl_ok, setS, snap_d, snap_l, p_add, p_sub, p_mul, p_mod, p_div, p_pow18, p_lt, p_le, p_gt, p_ge, p_eq, p_ne, p_ixL, p_ixT, p_neg, p_lenL, p_lenT, p_int, p_abs, p_min, p_max, List.getD_cons_zero, List.getD_cons_succ, List.getD_nil, List.set_cons_zero, List.set_cons_succ, List.length_cons, List.length_nil, List.length_set, Option.map_some, decide_eq_true_eq, decide_true, decide_false, if_true, if_false, and_self, fin_rt, fin_nx, outsOf, Bool.false_eq_true, Nat.reduceSub, Nat.reduceAdd, Nat.reduceLT, Int.reduceNeg, Int.reducePow, Int.reduceLT, or_true, true_or, at0, at1, at2, at3, at4, put1, put2, put3, put4, evI, evP, evO, evA, slR, items, It.lk, ownIx, wipeE, backE, Option.toList, bindPt, bindPts, Es.lk, p_lst, p_tup, p_tupL, p_tupT, p_listL, p_listT, p_addT, p_addL, p_dic, List.append_nil, Bool.true_and, Bool.and_true, Bool.not_true, Bool.not_false, idxB, cmp_lt]
    · simp only [h0, List.map_cons, List.map_nil, List.replicate, List.cons_append, List.nil_append, evSs, evS, evE, evEs, opd, slotOf, Es.slots, bindR_ok, bindR_ex, bl_ok, setS, snap_d, snap_l, p_add, p_sub, p_mul, p_mod, p_div, p_pow18, p_lt, p_le, p_gt, p_ge, p_eq, p_ne, p_ixL, p_ixT, p_neg, p_lenL, p_lenT, p_int, p_abs, p_min, p_max, List.getD_cons_zero, List.getD_cons_succ, List.getD_nil, List.set_cons_zero, List.set_cons_succ, List.length_cons, List.length_nil, List.length_set, Option.map_some, decide_eq_true_eq, decide_true, decide_false, if_true, if_false, and_self, fin_rt, fin_nx, outsOf, Bool.false_eq_true, Nat.reduceSub, Nat.reduceAdd, Nat.reduceLT, Int.reduceNeg, Int.reducePow, Int.reduceLT, or_true, true_or, at0, at1, at2, at3, at4, put1, put2, put3, put4, evI, evP, evO, evA, slR, items, It.lk, ownIx, wipeE, backE, Option.toList, bindPt, bindPts, Es.lk, p_lst, p_tup, p_tupL, p_tupT, p_listL, p_listT, p_addT, p_addL, p_dic, List.append_nil, Bool.true_and, Bool.and_true, Bool.not_true, Bool.not_false, idxB, Bool.false_and]
  | _ => first | rfl | (cases h; done)
def itemB (d : D) : Bool := d.isNon || isStr d || d.isInt
theorem is_item_ok (k : Nat) {d : D} (h : known d = true) : P.call (k + 2) 3 [.d d] = .ok (.d (.bl (itemB d))) [] := by
  rw [call_eq (fn := c_is_item) rfl, runF_eq rfl rfl]
  simp only [c_is_item, List.map_cons, List.map_nil, List.replicate, List.cons_append, List.nil_append, evSs, evS, evE, evEs, opd, slotOf, Es.slots, bindR_ok, bindR_ex, bl_ok, setS, snap_d, snap_l, p_add, p_sub, p_mul, p_mod, p_div, p_pow18, p_lt, p_le, p_gt, p_ge, p_eq, p_ne, p_ixL, p_ixT, p_neg, p_lenL, p_lenT, p_int, p_abs, p_min, p_max, List.getD_cons_zero, List.getD_cons_succ, List.getD_nil, List.set_cons_zero, List.set_cons_succ, List.length_cons, List.length_nil, List.length_set, Option.map_some, decide_eq_true_eq, decide_true, decide_false, if_true, if_false, and_self, fin_rt, fin_nx, outsOf, Bool.false_eq_true, Nat.reduceSub, Nat.reduceAdd, Nat.reduceLT, Int.reduceNeg, Int.reducePow, Int.reduceLT, or_true, true_or, at0, at1, at2, at3, at4, put1, put2, put3, put4, evI, evP, evO, evA, slR, items, It.lk, ownIx, wipeE, backE, Option.toList, bindPt, bindPts, Es.lk, p_lst, p_tup, p_tupL, p_tupT, p_listL, p_listT, p_addT, p_addL, p_dic, List.append_nil, Bool.true_and, Bool.and_true, Bool.not_true, Bool.not_false, g_str, i_str h, p_is, pcall (k + 1) 0 [none] _ _ _ rfl rfl (is_integer_ok k h)]
  cases d <;> first | rfl | (cases h; done)
theorem all_bl {α : Type} (g : α → Bool) (xs : List α) : primF (.bi .all) [.lst (xs.map fun i => .bl (g i))] = some (.d (.bl (xs.all g))) := by
  have h1 : (xs.map fun i => D.bl (g i)).all D.isBl = true := by
    rw [List.all_map]
    exact List.all_eq_true.mpr fun _ _ => rfl
  have h2 : (xs.map fun i => D.bl (g i)).all D.getBl = xs.all g := by
    rw [List.all_map]
    rfl
  show (if (xs.map fun i => D.bl (g i)).all D.isBl = true then some (T.d (.bl ((xs.map fun i => D.bl (g i)).all D.getBl))) else none) = _
  rw [h1, h2]
  rfl
theorem sum_ints (ls : List Int) : primF (.bi .sum) [.tup (ls.map .int)] = some (.d (.int ls.sum)) := by
  have h1 : (ls.map D.int).all D.isInt = true := by
    rw [List.all_map]
    exact List.all_eq_true.mpr fun _ _ => rfl
  have h2 : ((ls.map D.int).map D.getInt).sum = ls.sum := by
    rw [List.map_map]
    show (ls.map (fun i => i)).sum = _
    rw [List.map_id']
  show (if (ls.map D.int).all D.isInt = true then some (T.d (.int (((ls.map D.int).map D.getInt).sum))) else none) = _
  rw [h1, h2]
  rfl
def lenB (ls : List Int) : Bool := (decide (1 ≤ (ls.length : Int)) && decide ((ls.length : Int) ≤ 6)) && ls.all (fun i => decide (1 ≤ i) && decide (i ≤ 8)) && decide (ls.sum ≤ 12)
theorem known_int (i : Int) : known (.int i) = true := rfl
theorem lcL_by {b : D → AM.Env → R (Option D)} {α : Type} {inj : α → D} {f : α → D} {env : AM.Env} {xs : List α} (h : ∀ x ∈ xs, b (inj x) env = .ok (some (f x)) env) (hz : xs.length ≤ 1000000) : lcL b (xs.map inj) [] env = .ok (xs.map f) env := by
  have gen : ∀ (xs : List α) (acc : List D), (∀ x ∈ xs, b (inj x) env = .ok (some (f x)) env) → acc.length + xs.length ≤ sizeLine → lcL b (xs.map inj) acc env = .ok (acc ++ xs.map f) env := by
    intro xs
    induction xs with
    | nil => intro acc _ _; simp [lcL]
    | cons x xs ih =>
      intro acc h hz
      rw [List.map_cons]
      unfold lcL
      rw [h x List.mem_cons_self]
      rw [List.length_cons] at hz
      show (if acc.length < sizeLine then lcL b (xs.map inj) (acc ++ [f x]) env else .no) = _
      rw [if_pos (by omega), ih _ (fun e he => h e (List.mem_cons_of_mem _ he)) (by rw [List.length_append, List.length_singleton]; omega)]
      simp
  have := gen xs [] h (by rw [List.length_nil, Nat.zero_add]; exact small_le hz)
  rw [this, List.nil_append]
theorem are_lengths_ok (k : Nat) {ls : List Int} (h : ls.length ≤ 1000000) : P.call (k + 2) 2 [.d (.tup (ls.map .int))] = .ok (.d (.bl (lenB ls))) [] := by
  rw [call_eq (fn := c_are_lengths) rfl, runF_eq rfl rfl]
  have kt : known (.tup (ls.map D.int)) = true := rfl
  simp only [c_are_lengths, List.map_cons, List.map_nil, List.replicate, List.cons_append, List.nil_append, evSs, evS, evE, evEs, opd, slotOf, Es.slots, bindR_ok, bindR_ex, bl_ok, setS, snap_d, snap_l, p_add, p_sub, p_mul, p_mod, p_div, p_pow18, p_lt, p_le, p_gt, p_ge, p_eq, p_ne, p_ixL, p_ixT, p_neg, p_lenL, p_lenT, p_int, p_abs, p_min, p_max, List.getD_cons_zero, List.getD_cons_succ, List.getD_nil, List.set_cons_zero, List.set_cons_succ, List.length_cons, List.length_nil, List.length_set, Option.map_some, decide_eq_true_eq, decide_true, decide_false, if_true, if_false, and_self, fin_rt, fin_nx, outsOf, Bool.false_eq_true, Nat.reduceSub, Nat.reduceAdd, Nat.reduceLT, Int.reduceNeg, Int.reducePow, Int.reduceLT, or_true, true_or, at0, at1, at2, at3, at4, put1, put2, put3, put4, evI, evP, evO, evA, slR, items, It.lk, ownIx, wipeE, backE, Option.toList, bindPt, bindPts, Es.lk, p_lst, p_tup, p_tupL, p_tupT, p_listL, p_listT, p_addT, p_addL, p_dic, List.append_nil, Bool.true_and, Bool.and_true, Bool.not_true, Bool.not_false, g_tuple, i_tuple kt, isTp, g_belts, g_rooms, g_size, cmp_le, List.length_map]
  by_cases h1 : 1 ≤ (ls.length : Int)
  · by_cases h2 : (ls.length : Int) ≤ 6
    · simp only [h1, h2, List.map_cons, List.map_nil, List.replicate, List.cons_append, List.nil_append, evSs, evS, evE, evEs, opd, slotOf, Es.slots, bindR_ok, bindR_ex, bl_ok, setS, snap_d, snap_l, p_add, p_sub, p_mul, p_mod, p_div, p_pow18, p_lt, p_le, p_gt, p_ge, p_eq, p_ne, p_ixL, p_ixT, p_neg, p_lenL, p_lenT, p_int, p_abs, p_min, p_max, List.getD_cons_zero, List.getD_cons_succ, List.getD_nil, List.set_cons_zero, List.set_cons_succ, List.length_cons, List.length_nil, List.length_set, Option.map_some, decide_eq_true_eq, decide_true, decide_false, if_true, if_false, and_self, fin_rt, fin_nx, outsOf, Bool.false_eq_true, Nat.reduceSub, Nat.reduceAdd, Nat.reduceLT, Int.reduceNeg, Int.reducePow, Int.reduceLT, or_true, true_or, at0, at1, at2, at3, at4, put1, put2, put3, put4, evI, evP, evO, evA, slR, items, It.lk, ownIx, wipeE, backE, Option.toList, bindPt, bindPts, Es.lk, p_lst, p_tup, p_tupL, p_tupT, p_listL, p_listT, p_addT, p_addL, p_dic, List.append_nil, Bool.true_and, Bool.and_true, Bool.not_true, Bool.not_false]
      rw [lcL_by (f := fun i => .bl (decide (1 ≤ i) && decide (i ≤ 8))) (fun i _ => ?_) h]
      · simp only [List.map_cons, List.map_nil, List.replicate, List.cons_append, List.nil_append, evSs, evS, evE, evEs, opd, slotOf, Es.slots, bindR_ok, bindR_ex, bl_ok, setS, snap_d, snap_l, p_add, p_sub, p_mul, p_mod, p_div, p_pow18, p_lt, p_le, p_gt, p_ge, p_eq, p_ne, p_ixL, p_ixT, p_neg, p_lenL, p_lenT, p_int, p_abs, p_min, p_max, List.getD_cons_zero, List.getD_cons_succ, List.getD_nil, List.set_cons_zero, List.set_cons_succ, List.length_cons, List.length_nil, List.length_set, Option.map_some, decide_eq_true_eq, decide_true, decide_false, if_true, if_false, and_self, fin_rt, fin_nx, outsOf, Bool.false_eq_true, Nat.reduceSub, Nat.reduceAdd, Nat.reduceLT, Int.reduceNeg, Int.reducePow, Int.reduceLT, or_true, true_or, at0, at1, at2, at3, at4, put1, put2, put3, put4, evI, evP, evO, evA, slR, items, It.lk, ownIx, wipeE, backE, Option.toList, bindPt, bindPts, Es.lk, p_lst, p_tup, p_tupL, p_tupT, p_listL, p_listT, p_addT, p_addL, p_dic, List.append_nil, Bool.true_and, Bool.and_true, Bool.not_true, Bool.not_false, all_bl, sum_ints]
        cases h3 : ls.all (fun i => decide (1 ≤ i) && decide (i ≤ 8)) with
        | true => simp only [List.map_cons, List.map_nil, List.replicate, List.cons_append, List.nil_append, evSs, evS, evE, evEs, opd, slotOf, Es.slots, bindR_ok, bindR_ex, bl_ok, setS, snap_d, snap_l, p_add, p_sub, p_mul, p_mod, p_div, p_pow18, p_lt, p_le, p_gt, p_ge, p_eq, p_ne, p_ixL, p_ixT, p_neg, p_lenL, p_lenT, p_int, p_abs, p_min, p_max, List.getD_cons_zero, List.getD_cons_succ, List.getD_nil, List.set_cons_zero, List.set_cons_succ, List.length_cons, List.length_nil, List.length_set, Option.map_some, decide_eq_true_eq, decide_true, decide_false, if_true, if_false, and_self, fin_rt, fin_nx, outsOf, Bool.false_eq_true, Nat.reduceSub, Nat.reduceAdd, Nat.reduceLT, Int.reduceNeg, Int.reducePow, Int.reduceLT, or_true, true_or, at0, at1, at2, at3, at4, put1, put2, put3, put4, evI, evP, evO, evA, slR, items, It.lk, ownIx, wipeE, backE, Option.toList, bindPt, bindPts, Es.lk, p_lst, p_tup, p_tupL, p_tupT, p_listL, p_listT, p_addT, p_addL, p_dic, List.append_nil, Bool.true_and, Bool.and_true, Bool.not_true, Bool.not_false, lenB, h1, h2, h3, sum_ints, g_size]
        | false => simp only [List.map_cons, List.map_nil, List.replicate, List.cons_append, List.nil_append, evSs, evS, evE, evEs, opd, slotOf, Es.slots, bindR_ok, bindR_ex, bl_ok, setS, snap_d, snap_l, p_add, p_sub, p_mul, p_mod, p_div, p_pow18, p_lt, p_le, p_gt, p_ge, p_eq, p_ne, p_ixL, p_ixT, p_neg, p_lenL, p_lenT, p_int, p_abs, p_min, p_max, List.getD_cons_zero, List.getD_cons_succ, List.getD_nil, List.set_cons_zero, List.set_cons_succ, List.length_cons, List.length_nil, List.length_set, Option.map_some, decide_eq_true_eq, decide_true, decide_false, if_true, if_false, and_self, fin_rt, fin_nx, outsOf, Bool.false_eq_true, Nat.reduceSub, Nat.reduceAdd, Nat.reduceLT, Int.reduceNeg, Int.reducePow, Int.reduceLT, or_true, true_or, at0, at1, at2, at3, at4, put1, put2, put3, put4, evI, evP, evO, evA, slR, items, It.lk, ownIx, wipeE, backE, Option.toList, bindPt, bindPts, Es.lk, p_lst, p_tup, p_tupL, p_tupT, p_listL, p_listT, p_addT, p_addL, p_dic, List.append_nil, Bool.true_and, Bool.and_true, Bool.not_true, Bool.not_false, lenB, h1, h2, h3, Bool.and_false, Bool.false_and]
      · simp only [List.map_cons, List.map_nil, List.replicate, List.cons_append, List.nil_append, evSs, evS, evE, evEs, opd, slotOf, Es.slots, bindR_ok, bindR_ex, bl_ok, setS, snap_d, snap_l, p_add, p_sub, p_mul, p_mod, p_div, p_pow18, p_lt, p_le, p_gt, p_ge, p_eq, p_ne, p_ixL, p_ixT, p_neg, p_lenL, p_lenT, p_int, p_abs, p_min, p_max, List.getD_cons_zero, List.getD_cons_succ, List.getD_nil, List.set_cons_zero, List.set_cons_succ, List.length_cons, List.length_nil, List.length_set, Option.map_some, decide_eq_true_eq, decide_true, decide_false, if_true, if_false, and_self, fin_rt, fin_nx, outsOf, Bool.false_eq_true, Nat.reduceSub, Nat.reduceAdd, Nat.reduceLT, Int.reduceNeg, Int.reducePow, Int.reduceLT, or_true, true_or, at0, at1, at2, at3, at4, put1, put2, put3, put4, evI, evP, evO, evA, slR, items, It.lk, ownIx, wipeE, backE, Option.toList, bindPt, bindPts, Es.lk, p_lst, p_tup, p_tupL, p_tupT, p_listL, p_listT, p_addT, p_addL, p_dic, List.append_nil, Bool.true_and, Bool.and_true, Bool.not_true, Bool.not_false, pcall (k + 1) 0 [none] _ _ _ rfl rfl (is_integer_ok k (known_int _)), D.isInt, cmp_le, g_rooms]
        by_cases h3 : 1 ≤ i
        · simp only [h3, List.map_cons, List.map_nil, List.replicate, List.cons_append, List.nil_append, evSs, evS, evE, evEs, opd, slotOf, Es.slots, bindR_ok, bindR_ex, bl_ok, setS, snap_d, snap_l, p_add, p_sub, p_mul, p_mod, p_div, p_pow18, p_lt, p_le, p_gt, p_ge, p_eq, p_ne, p_ixL, p_ixT, p_neg, p_lenL, p_lenT, p_int, p_abs, p_min, p_max, List.getD_cons_zero, List.getD_cons_succ, List.getD_nil, List.set_cons_zero, List.set_cons_succ, List.length_cons, List.length_nil, List.length_set, Option.map_some, decide_eq_true_eq, decide_true, decide_false, if_true, if_false, and_self, fin_rt, fin_nx, outsOf, Bool.false_eq_true, Nat.reduceSub, Nat.reduceAdd, Nat.reduceLT, Int.reduceNeg, Int.reducePow, Int.reduceLT, or_true, true_or, at0, at1, at2, at3, at4, put1, put2, put3, put4, evI, evP, evO, evA, slR, items, It.lk, ownIx, wipeE, backE, Option.toList, bindPt, bindPts, Es.lk, p_lst, p_tup, p_tupL, p_tupT, p_listL, p_listT, p_addT, p_addL, p_dic, List.append_nil, Bool.true_and, Bool.and_true, Bool.not_true, Bool.not_false, cmp_le, g_rooms]
        · simp only [h3, List.map_cons, List.map_nil, List.replicate, List.cons_append, List.nil_append, evSs, evS, evE, evEs, opd, slotOf, Es.slots, bindR_ok, bindR_ex, bl_ok, setS, snap_d, snap_l, p_add, p_sub, p_mul, p_mod, p_div, p_pow18, p_lt, p_le, p_gt, p_ge, p_eq, p_ne, p_ixL, p_ixT, p_neg, p_lenL, p_lenT, p_int, p_abs, p_min, p_max, List.getD_cons_zero, List.getD_cons_succ, List.getD_nil, List.set_cons_zero, List.set_cons_succ, List.length_cons, List.length_nil, List.length_set, Option.map_some, decide_eq_true_eq, decide_true, decide_false, if_true, if_false, and_self, fin_rt, fin_nx, outsOf, Bool.false_eq_true, Nat.reduceSub, Nat.reduceAdd, Nat.reduceLT, Int.reduceNeg, Int.reducePow, Int.reduceLT, or_true, true_or, at0, at1, at2, at3, at4, put1, put2, put3, put4, evI, evP, evO, evA, slR, items, It.lk, ownIx, wipeE, backE, Option.toList, bindPt, bindPts, Es.lk, p_lst, p_tup, p_tupL, p_tupT, p_listL, p_listT, p_addT, p_addL, p_dic, List.append_nil, Bool.true_and, Bool.and_true, Bool.not_true, Bool.not_false, Bool.false_and]
    · simp only [h1, h2, List.map_cons, List.map_nil, List.replicate, List.cons_append, List.nil_append, evSs, evS, evE, evEs, opd, slotOf, Es.slots, bindR_ok, bindR_ex, bl_ok, setS, snap_d, snap_l, p_add, p_sub, p_mul, p_mod, p_div, p_pow18, p_lt, p_le, p_gt, p_ge, p_eq, p_ne, p_ixL, p_ixT, p_neg, p_lenL, p_lenT, p_int, p_abs, p_min, p_max, List.getD_cons_zero, List.getD_cons_succ, List.getD_nil, List.set_cons_zero, List.set_cons_succ, List.length_cons, List.length_nil, List.length_set, Option.map_some, decide_eq_true_eq, decide_true, decide_false, if_true, if_false, and_self, fin_rt, fin_nx, outsOf, Bool.false_eq_true, Nat.reduceSub, Nat.reduceAdd, Nat.reduceLT, Int.reduceNeg, Int.reducePow, Int.reduceLT, or_true, true_or, at0, at1, at2, at3, at4, put1, put2, put3, put4, evI, evP, evO, evA, slR, items, It.lk, ownIx, wipeE, backE, Option.toList, bindPt, bindPts, Es.lk, p_lst, p_tup, p_tupL, p_tupT, p_listL, p_listT, p_addT, p_addL, p_dic, List.append_nil, Bool.true_and, Bool.and_true, Bool.not_true, Bool.not_false, lenB, Bool.false_and, Bool.and_false]
  · simp only [h1, List.map_cons, List.map_nil, List.replicate, List.cons_append, List.nil_append, evSs, evS, evE, evEs, opd, slotOf, Es.slots, bindR_ok, bindR_ex, bl_ok, setS, snap_d, snap_l, p_add, p_sub, p_mul, p_mod, p_div, p_pow18, p_lt, p_le, p_gt, p_ge, p_eq, p_ne, p_ixL, p_ixT, p_neg, p_lenL, p_lenT, p_int, p_abs, p_min, p_max, List.getD_cons_zero, List.getD_cons_succ, List.getD_nil, List.set_cons_zero, List.set_cons_succ, List.length_cons, List.length_nil, List.length_set, Option.map_some, decide_eq_true_eq, decide_true, decide_false, if_true, if_false, and_self, fin_rt, fin_nx, outsOf, Bool.false_eq_true, Nat.reduceSub, Nat.reduceAdd, Nat.reduceLT, Int.reduceNeg, Int.reducePow, Int.reduceLT, or_true, true_or, at0, at1, at2, at3, at4, put1, put2, put3, put4, evI, evP, evO, evA, slR, items, It.lk, ownIx, wipeE, backE, Option.toList, bindPt, bindPts, Es.lk, p_lst, p_tup, p_tupL, p_tupT, p_listL, p_listT, p_addT, p_addL, p_dic, List.append_nil, Bool.true_and, Bool.and_true, Bool.not_true, Bool.not_false, lenB, Bool.false_and, Bool.and_false]
theorem lcL_m {b : D → AM.Env → R (Option D)} {f : D → D} {env : AM.Env} {xs : List D} (h : ∀ x ∈ xs, b x env = .ok (some (f x)) env) (hz : xs.length ≤ 1000000) : lcL b xs [] env = .ok (xs.map f) env := by
  have := lcL_map (f := f) xs [] h (by rw [List.length_nil, Nat.zero_add]; exact small_le hz)
  rw [this, List.nil_append]
def tupI : D → List D
  | .tup xs => xs
  | _ => []
def rowK (r : D) : Bool := known r && decide ((tupI r).length ≤ 1000) && (tupI r).all known
def holdK (d : D) : Bool := known d && decide ((tupI d).length ≤ 1000) && (tupI d).all rowK
def holdB : D → Bool
  | .tup rows => rows.all isTp && rows.all (fun r => (tupI r).all itemB) && lenB (rows.map fun r => ((tupI r).length : Int))
  | _ => false
theorem is_holding_ok (k : Nat) {d : D} (h : holdK d = true) : P.call (k + 3) 4 [.d d] = .ok (.d (.bl (holdB d))) [] := by
  unfold holdK at h
  simp only [Bool.and_eq_true, decide_eq_true_eq] at h
  obtain ⟨⟨hk, hl⟩, hr⟩ := h
  rw [call_eq (fn := c_is_holding) rfl, runF_eq rfl rfl]
  cases d with
  | tup rows =>
    have hr : ∀ r ∈ rows, rowK r = true := fun r h => List.all_eq_true.mp hr r h
    have hl : rows.length ≤ 1000 := hl
    simp only [c_is_holding, List.map_cons, List.map_nil, List.replicate, List.cons_append, List.nil_append, evSs, evS, evE, evEs, opd, slotOf, Es.slots, bindR_ok, bindR_ex, bl_ok, setS, snap_d, snap_l, p_add, p_sub, p_mul, p_mod, p_div, p_pow18, p_lt, p_le, p_gt, p_ge, p_eq, p_ne, p_ixL, p_ixT, p_neg, p_lenL, p_lenT, p_int, p_abs, p_min, p_max, List.getD_cons_zero, List.getD_cons_succ, List.getD_nil, List.set_cons_zero, List.set_cons_succ, List.length_cons, List.length_nil, List.length_set, Option.map_some, decide_eq_true_eq, decide_true, decide_false, if_true, if_false, and_self, fin_rt, fin_nx, outsOf, Bool.false_eq_true, Nat.reduceSub, Nat.reduceAdd, Nat.reduceLT, Int.reduceNeg, Int.reducePow, Int.reduceLT, or_true, true_or, at0, at1, at2, at3, at4, put1, put2, put3, put4, evI, evP, evO, evA, slR, items, It.lk, ownIx, wipeE, backE, Option.toList, bindPt, bindPts, Es.lk, p_lst, p_tup, p_tupL, p_tupT, p_listL, p_listT, p_addT, p_addL, p_dic, List.append_nil, Bool.true_and, Bool.and_true, Bool.not_true, Bool.not_false, g_tuple, i_tuple hk, isTp]
    rw [lcL_m (f := fun d => .bl (isTp d)) (fun r hm => ?_) (Nat.le_trans hl (by decide))]
    · simp only [List.map_cons, List.map_nil, List.replicate, List.cons_append, List.nil_append, evSs, evS, evE, evEs, opd, slotOf, Es.slots, bindR_ok, bindR_ex, bl_ok, setS, snap_d, snap_l, p_add, p_sub, p_mul, p_mod, p_div, p_pow18, p_lt, p_le, p_gt, p_ge, p_eq, p_ne, p_ixL, p_ixT, p_neg, p_lenL, p_lenT, p_int, p_abs, p_min, p_max, List.getD_cons_zero, List.getD_cons_succ, List.getD_nil, List.set_cons_zero, List.set_cons_succ, List.length_cons, List.length_nil, List.length_set, Option.map_some, decide_eq_true_eq, decide_true, decide_false, if_true, if_false, and_self, fin_rt, fin_nx, outsOf, Bool.false_eq_true, Nat.reduceSub, Nat.reduceAdd, Nat.reduceLT, Int.reduceNeg, Int.reducePow, Int.reduceLT, or_true, true_or, at0, at1, at2, at3, at4, put1, put2, put3, put4, evI, evP, evO, evA, slR, items, It.lk, ownIx, wipeE, backE, Option.toList, bindPt, bindPts, Es.lk, p_lst, p_tup, p_tupL, p_tupT, p_listL, p_listT, p_addT, p_addL, p_dic, List.append_nil, Bool.true_and, Bool.and_true, Bool.not_true, Bool.not_false, all_bl]
      cases h1 : rows.all isTp with
      | false => simp only [List.map_cons, List.map_nil, List.replicate, List.cons_append, List.nil_append, evSs, evS, evE, evEs, opd, slotOf, Es.slots, bindR_ok, bindR_ex, bl_ok, setS, snap_d, snap_l, p_add, p_sub, p_mul, p_mod, p_div, p_pow18, p_lt, p_le, p_gt, p_ge, p_eq, p_ne, p_ixL, p_ixT, p_neg, p_lenL, p_lenT, p_int, p_abs, p_min, p_max, List.getD_cons_zero, List.getD_cons_succ, List.getD_nil, List.set_cons_zero, List.set_cons_succ, List.length_cons, List.length_nil, List.length_set, Option.map_some, decide_eq_true_eq, decide_true, decide_false, if_true, if_false, and_self, fin_rt, fin_nx, outsOf, Bool.false_eq_true, Nat.reduceSub, Nat.reduceAdd, Nat.reduceLT, Int.reduceNeg, Int.reducePow, Int.reduceLT, or_true, true_or, at0, at1, at2, at3, at4, put1, put2, put3, put4, evI, evP, evO, evA, slR, items, It.lk, ownIx, wipeE, backE, Option.toList, bindPt, bindPts, Es.lk, p_lst, p_tup, p_tupL, p_tupT, p_listL, p_listT, p_addT, p_addL, p_dic, List.append_nil, Bool.true_and, Bool.and_true, Bool.not_true, Bool.not_false, holdB, h1, Bool.false_and]
      | true =>
        have ht : ∀ r ∈ rows, ∃ xs, r = .tup xs := fun r hm => by
          have := List.all_eq_true.mp h1 r hm
          cases r <;> first | exact ⟨_, rfl⟩ | cases this
        simp only [List.map_cons, List.map_nil, List.replicate, List.cons_append, List.nil_append, evSs, evS, evE, evEs, opd, slotOf, Es.slots, bindR_ok, bindR_ex, bl_ok, setS, snap_d, snap_l, p_add, p_sub, p_mul, p_mod, p_div, p_pow18, p_lt, p_le, p_gt, p_ge, p_eq, p_ne, p_ixL, p_ixT, p_neg, p_lenL, p_lenT, p_int, p_abs, p_min, p_max, List.getD_cons_zero, List.getD_cons_succ, List.getD_nil, List.set_cons_zero, List.set_cons_succ, List.length_cons, List.length_nil, List.length_set, Option.map_some, decide_eq_true_eq, decide_true, decide_false, if_true, if_false, and_self, fin_rt, fin_nx, outsOf, Bool.false_eq_true, Nat.reduceSub, Nat.reduceAdd, Nat.reduceLT, Int.reduceNeg, Int.reducePow, Int.reduceLT, or_true, true_or, at0, at1, at2, at3, at4, put1, put2, put3, put4, evI, evP, evO, evA, slR, items, It.lk, ownIx, wipeE, backE, Option.toList, bindPt, bindPts, Es.lk, p_lst, p_tup, p_tupL, p_tupT, p_listL, p_listT, p_addT, p_addL, p_dic, List.append_nil, Bool.true_and, Bool.and_true, Bool.not_true, Bool.not_false]
        rw [lcL_m (f := fun d => .bl ((tupI d).all itemB)) (fun r hm => ?_) (Nat.le_trans hl (by decide))]
        · simp only [List.map_cons, List.map_nil, List.replicate, List.cons_append, List.nil_append, evSs, evS, evE, evEs, opd, slotOf, Es.slots, bindR_ok, bindR_ex, bl_ok, setS, snap_d, snap_l, p_add, p_sub, p_mul, p_mod, p_div, p_pow18, p_lt, p_le, p_gt, p_ge, p_eq, p_ne, p_ixL, p_ixT, p_neg, p_lenL, p_lenT, p_int, p_abs, p_min, p_max, List.getD_cons_zero, List.getD_cons_succ, List.getD_nil, List.set_cons_zero, List.set_cons_succ, List.length_cons, List.length_nil, List.length_set, Option.map_some, decide_eq_true_eq, decide_true, decide_false, if_true, if_false, and_self, fin_rt, fin_nx, outsOf, Bool.false_eq_true, Nat.reduceSub, Nat.reduceAdd, Nat.reduceLT, Int.reduceNeg, Int.reducePow, Int.reduceLT, or_true, true_or, at0, at1, at2, at3, at4, put1, put2, put3, put4, evI, evP, evO, evA, slR, items, It.lk, ownIx, wipeE, backE, Option.toList, bindPt, bindPts, Es.lk, p_lst, p_tup, p_tupL, p_tupT, p_listL, p_listT, p_addT, p_addL, p_dic, List.append_nil, Bool.true_and, Bool.and_true, Bool.not_true, Bool.not_false, all_bl]
          cases h2 : rows.all (fun r => (tupI r).all itemB) with
          | false => simp only [List.map_cons, List.map_nil, List.replicate, List.cons_append, List.nil_append, evSs, evS, evE, evEs, opd, slotOf, Es.slots, bindR_ok, bindR_ex, bl_ok, setS, snap_d, snap_l, p_add, p_sub, p_mul, p_mod, p_div, p_pow18, p_lt, p_le, p_gt, p_ge, p_eq, p_ne, p_ixL, p_ixT, p_neg, p_lenL, p_lenT, p_int, p_abs, p_min, p_max, List.getD_cons_zero, List.getD_cons_succ, List.getD_nil, List.set_cons_zero, List.set_cons_succ, List.length_cons, List.length_nil, List.length_set, Option.map_some, decide_eq_true_eq, decide_true, decide_false, if_true, if_false, and_self, fin_rt, fin_nx, outsOf, Bool.false_eq_true, Nat.reduceSub, Nat.reduceAdd, Nat.reduceLT, Int.reduceNeg, Int.reducePow, Int.reduceLT, or_true, true_or, at0, at1, at2, at3, at4, put1, put2, put3, put4, evI, evP, evO, evA, slR, items, It.lk, ownIx, wipeE, backE, Option.toList, bindPt, bindPts, Es.lk, p_lst, p_tup, p_tupL, p_tupT, p_listL, p_listT, p_addT, p_addL, p_dic, List.append_nil, Bool.true_and, Bool.and_true, Bool.not_true, Bool.not_false, holdB, h1, h2, Bool.false_and, Bool.and_false]
          | true =>
            simp only [List.map_cons, List.map_nil, List.replicate, List.cons_append, List.nil_append, evSs, evS, evE, evEs, opd, slotOf, Es.slots, bindR_ok, bindR_ex, bl_ok, setS, snap_d, snap_l, p_add, p_sub, p_mul, p_mod, p_div, p_pow18, p_lt, p_le, p_gt, p_ge, p_eq, p_ne, p_ixL, p_ixT, p_neg, p_lenL, p_lenT, p_int, p_abs, p_min, p_max, List.getD_cons_zero, List.getD_cons_succ, List.getD_nil, List.set_cons_zero, List.set_cons_succ, List.length_cons, List.length_nil, List.length_set, Option.map_some, decide_eq_true_eq, decide_true, decide_false, if_true, if_false, and_self, fin_rt, fin_nx, outsOf, Bool.false_eq_true, Nat.reduceSub, Nat.reduceAdd, Nat.reduceLT, Int.reduceNeg, Int.reducePow, Int.reduceLT, or_true, true_or, at0, at1, at2, at3, at4, put1, put2, put3, put4, evI, evP, evO, evA, slR, items, It.lk, ownIx, wipeE, backE, Option.toList, bindPt, bindPts, Es.lk, p_lst, p_tup, p_tupL, p_tupT, p_listL, p_listT, p_addT, p_addL, p_dic, List.append_nil, Bool.true_and, Bool.and_true, Bool.not_true, Bool.not_false]
            rw [lcL_m (f := fun d => .int (((tupI d).length : Int))) (fun r hm => ?_) (Nat.le_trans hl (by decide))]
            · have e : (rows.map fun d => D.int (((tupI d).length : Int))) = (rows.map fun d => ((tupI d).length : Int)).map D.int := by rw [List.map_map]; rfl
              simp only [List.map_cons, List.map_nil, List.replicate, List.cons_append, List.nil_append, evSs, evS, evE, evEs, opd, slotOf, Es.slots, bindR_ok, bindR_ex, bl_ok, setS, snap_d, snap_l, p_add, p_sub, p_mul, p_mod, p_div, p_pow18, p_lt, p_le, p_gt, p_ge, p_eq, p_ne, p_ixL, p_ixT, p_neg, p_lenL, p_lenT, p_int, p_abs, p_min, p_max, List.getD_cons_zero, List.getD_cons_succ, List.getD_nil, List.set_cons_zero, List.set_cons_succ, List.length_cons, List.length_nil, List.length_set, Option.map_some, decide_eq_true_eq, decide_true, decide_false, if_true, if_false, and_self, fin_rt, fin_nx, outsOf, Bool.false_eq_true, Nat.reduceSub, Nat.reduceAdd, Nat.reduceLT, Int.reduceNeg, Int.reducePow, Int.reduceLT, or_true, true_or, at0, at1, at2, at3, at4, put1, put2, put3, put4, evI, evP, evO, evA, slR, items, It.lk, ownIx, wipeE, backE, Option.toList, bindPt, bindPts, Es.lk, p_lst, p_tup, p_tupL, p_tupT, p_listL, p_listT, p_addT, p_addL, p_dic, List.append_nil, Bool.true_and, Bool.and_true, Bool.not_true, Bool.not_false, e, pcall (k + 2) 2 [none] _ _ _ rfl rfl (are_lengths_ok (k) (ls := rows.map fun d => ((tupI d).length : Int)) (by rw [List.length_map]; omega))]
              simp only [List.map_cons, List.map_nil, List.replicate, List.cons_append, List.nil_append, evSs, evS, evE, evEs, opd, slotOf, Es.slots, bindR_ok, bindR_ex, bl_ok, setS, snap_d, snap_l, p_add, p_sub, p_mul, p_mod, p_div, p_pow18, p_lt, p_le, p_gt, p_ge, p_eq, p_ne, p_ixL, p_ixT, p_neg, p_lenL, p_lenT, p_int, p_abs, p_min, p_max, List.getD_cons_zero, List.getD_cons_succ, List.getD_nil, List.set_cons_zero, List.set_cons_succ, List.length_cons, List.length_nil, List.length_set, Option.map_some, decide_eq_true_eq, decide_true, decide_false, if_true, if_false, and_self, fin_rt, fin_nx, outsOf, Bool.false_eq_true, Nat.reduceSub, Nat.reduceAdd, Nat.reduceLT, Int.reduceNeg, Int.reducePow, Int.reduceLT, or_true, true_or, at0, at1, at2, at3, at4, put1, put2, put3, put4, evI, evP, evO, evA, slR, items, It.lk, ownIx, wipeE, backE, Option.toList, bindPt, bindPts, Es.lk, p_lst, p_tup, p_tupL, p_tupT, p_listL, p_listT, p_addT, p_addL, p_dic, List.append_nil, Bool.true_and, Bool.and_true, Bool.not_true, Bool.not_false, holdB, h1, h2]
            · obtain ⟨xs, rfl⟩ := ht r hm
              simp only [List.map_cons, List.map_nil, List.replicate, List.cons_append, List.nil_append, evSs, evS, evE, evEs, opd, slotOf, Es.slots, bindR_ok, bindR_ex, bl_ok, setS, snap_d, snap_l, p_add, p_sub, p_mul, p_mod, p_div, p_pow18, p_lt, p_le, p_gt, p_ge, p_eq, p_ne, p_ixL, p_ixT, p_neg, p_lenL, p_lenT, p_int, p_abs, p_min, p_max, List.getD_cons_zero, List.getD_cons_succ, List.getD_nil, List.set_cons_zero, List.set_cons_succ, List.length_cons, List.length_nil, List.length_set, Option.map_some, decide_eq_true_eq, decide_true, decide_false, if_true, if_false, and_self, fin_rt, fin_nx, outsOf, Bool.false_eq_true, Nat.reduceSub, Nat.reduceAdd, Nat.reduceLT, Int.reduceNeg, Int.reducePow, Int.reduceLT, or_true, true_or, at0, at1, at2, at3, at4, put1, put2, put3, put4, evI, evP, evO, evA, slR, items, It.lk, ownIx, wipeE, backE, Option.toList, bindPt, bindPts, Es.lk, p_lst, p_tup, p_tupL, p_tupT, p_listL, p_listT, p_addT, p_addL, p_dic, List.append_nil, Bool.true_and, Bool.and_true, Bool.not_true, Bool.not_false, tupI]
        · obtain ⟨xs, rfl⟩ := ht r hm
          have hx := hr _ hm
          unfold rowK at hx
          simp only [Bool.and_eq_true, decide_eq_true_eq, tupI] at hx
          simp only [List.map_cons, List.map_nil, List.replicate, List.cons_append, List.nil_append, evSs, evS, evE, evEs, opd, slotOf, Es.slots, bindR_ok, bindR_ex, bl_ok, setS, snap_d, snap_l, p_add, p_sub, p_mul, p_mod, p_div, p_pow18, p_lt, p_le, p_gt, p_ge, p_eq, p_ne, p_ixL, p_ixT, p_neg, p_lenL, p_lenT, p_int, p_abs, p_min, p_max, List.getD_cons_zero, List.getD_cons_succ, List.getD_nil, List.set_cons_zero, List.set_cons_succ, List.length_cons, List.length_nil, List.length_set, Option.map_some, decide_eq_true_eq, decide_true, decide_false, if_true, if_false, and_self, fin_rt, fin_nx, outsOf, Bool.false_eq_true, Nat.reduceSub, Nat.reduceAdd, Nat.reduceLT, Int.reduceNeg, Int.reducePow, Int.reduceLT, or_true, true_or, at0, at1, at2, at3, at4, put1, put2, put3, put4, evI, evP, evO, evA, slR, items, It.lk, ownIx, wipeE, backE, Option.toList, bindPt, bindPts, Es.lk, p_lst, p_tup, p_tupL, p_tupT, p_listL, p_listT, p_addT, p_addL, p_dic, List.append_nil, Bool.true_and, Bool.and_true, Bool.not_true, Bool.not_false, tupI]
          rw [lcL_m (f := fun d => .bl (itemB d)) (fun z hz => ?_) (Nat.le_trans (m := 1000) (of_decide_eq_true hx.1.2) (by decide))]
          · simp only [List.map_cons, List.map_nil, List.replicate, List.cons_append, List.nil_append, evSs, evS, evE, evEs, opd, slotOf, Es.slots, bindR_ok, bindR_ex, bl_ok, setS, snap_d, snap_l, p_add, p_sub, p_mul, p_mod, p_div, p_pow18, p_lt, p_le, p_gt, p_ge, p_eq, p_ne, p_ixL, p_ixT, p_neg, p_lenL, p_lenT, p_int, p_abs, p_min, p_max, List.getD_cons_zero, List.getD_cons_succ, List.getD_nil, List.set_cons_zero, List.set_cons_succ, List.length_cons, List.length_nil, List.length_set, Option.map_some, decide_eq_true_eq, decide_true, decide_false, if_true, if_false, and_self, fin_rt, fin_nx, outsOf, Bool.false_eq_true, Nat.reduceSub, Nat.reduceAdd, Nat.reduceLT, Int.reduceNeg, Int.reducePow, Int.reduceLT, or_true, true_or, at0, at1, at2, at3, at4, put1, put2, put3, put4, evI, evP, evO, evA, slR, items, It.lk, ownIx, wipeE, backE, Option.toList, bindPt, bindPts, Es.lk, p_lst, p_tup, p_tupL, p_tupT, p_listL, p_listT, p_addT, p_addL, p_dic, List.append_nil, Bool.true_and, Bool.and_true, Bool.not_true, Bool.not_false, all_bl]
          · simp only [List.map_cons, List.map_nil, List.replicate, List.cons_append, List.nil_append, evSs, evS, evE, evEs, opd, slotOf, Es.slots, bindR_ok, bindR_ex, bl_ok, setS, snap_d, snap_l, p_add, p_sub, p_mul, p_mod, p_div, p_pow18, p_lt, p_le, p_gt, p_ge, p_eq, p_ne, p_ixL, p_ixT, p_neg, p_lenL, p_lenT, p_int, p_abs, p_min, p_max, List.getD_cons_zero, List.getD_cons_succ, List.getD_nil, List.set_cons_zero, List.set_cons_succ, List.length_cons, List.length_nil, List.length_set, Option.map_some, decide_eq_true_eq, decide_true, decide_false, if_true, if_false, and_self, fin_rt, fin_nx, outsOf, Bool.false_eq_true, Nat.reduceSub, Nat.reduceAdd, Nat.reduceLT, Int.reduceNeg, Int.reducePow, Int.reduceLT, or_true, true_or, at0, at1, at2, at3, at4, put1, put2, put3, put4, evI, evP, evO, evA, slR, items, It.lk, ownIx, wipeE, backE, Option.toList, bindPt, bindPts, Es.lk, p_lst, p_tup, p_tupL, p_tupT, p_listL, p_listT, p_addT, p_addL, p_dic, List.append_nil, Bool.true_and, Bool.and_true, Bool.not_true, Bool.not_false, pcall (k + 2) 3 [none] _ _ _ rfl rfl (is_item_ok k (List.all_eq_true.mp hx.2 z hz))]
    · have hx := hr _ hm
      unfold rowK at hx
      simp only [Bool.and_eq_true] at hx
      simp only [List.map_cons, List.map_nil, List.replicate, List.cons_append, List.nil_append, evSs, evS, evE, evEs, opd, slotOf, Es.slots, bindR_ok, bindR_ex, bl_ok, setS, snap_d, snap_l, p_add, p_sub, p_mul, p_mod, p_div, p_pow18, p_lt, p_le, p_gt, p_ge, p_eq, p_ne, p_ixL, p_ixT, p_neg, p_lenL, p_lenT, p_int, p_abs, p_min, p_max, List.getD_cons_zero, List.getD_cons_succ, List.getD_nil, List.set_cons_zero, List.set_cons_succ, List.length_cons, List.length_nil, List.length_set, Option.map_some, decide_eq_true_eq, decide_true, decide_false, if_true, if_false, and_self, fin_rt, fin_nx, outsOf, Bool.false_eq_true, Nat.reduceSub, Nat.reduceAdd, Nat.reduceLT, Int.reduceNeg, Int.reducePow, Int.reduceLT, or_true, true_or, at0, at1, at2, at3, at4, put1, put2, put3, put4, evI, evP, evO, evA, slR, items, It.lk, ownIx, wipeE, backE, Option.toList, bindPt, bindPts, Es.lk, p_lst, p_tup, p_tupL, p_tupT, p_listL, p_listT, p_addT, p_addL, p_dic, List.append_nil, Bool.true_and, Bool.and_true, Bool.not_true, Bool.not_false, g_tuple, i_tuple hx.1.1]
  | _ => first | (cases hk; done) | (simp only [c_is_holding, List.map_cons, List.map_nil, List.replicate, List.cons_append, List.nil_append, evSs, evS, evE, evEs, opd, slotOf, Es.slots, bindR_ok, bindR_ex, bl_ok, setS, snap_d, snap_l, p_add, p_sub, p_mul, p_mod, p_div, p_pow18, p_lt, p_le, p_gt, p_ge, p_eq, p_ne, p_ixL, p_ixT, p_neg, p_lenL, p_lenT, p_int, p_abs, p_min, p_max, List.getD_cons_zero, List.getD_cons_succ, List.getD_nil, List.set_cons_zero, List.set_cons_succ, List.length_cons, List.length_nil, List.length_set, Option.map_some, decide_eq_true_eq, decide_true, decide_false, if_true, if_false, and_self, fin_rt, fin_nx, outsOf, Bool.false_eq_true, Nat.reduceSub, Nat.reduceAdd, Nat.reduceLT, Int.reduceNeg, Int.reducePow, Int.reduceLT, or_true, true_or, at0, at1, at2, at3, at4, put1, put2, put3, put4, evI, evP, evO, evA, slR, items, It.lk, ownIx, wipeE, backE, Option.toList, bindPt, bindPts, Es.lk, p_lst, p_tup, p_tupL, p_tupT, p_listL, p_listT, p_addT, p_addL, p_dic, List.append_nil, Bool.true_and, Bool.and_true, Bool.not_true, Bool.not_false, g_tuple, i_tuple hk, isTp, holdB]; done)
theorem p_len2 (a b : D) : primF (.bi .len) [.tup [a, b]] = some (.d (.int 2)) := rfl
theorem p_ne22 : primF (.cmp .NotEq) [.int 2, .int 2] = some (.d (.bl false)) := rfl
theorem at20 (a b : D) : L2.atI [a, b] (0 : Int) = some a := rfl
theorem at21 (a b : D) : L2.atI [a, b] (1 : Int) = some b := rfl
theorem at_map {ls : List Int} {i : Int} (h0 : 0 ≤ i) (h1 : i < ls.length) : L2.atI (ls.map D.int) i = some (.int (ls.getD i.toNat 0)) := by
  obtain ⟨j, rfl⟩ : ∃ j : Nat, i = j := ⟨i.toNat, by omega⟩
  have hj : j < ls.length := by omega
  refine L2.atI_nat ?_
  rw [List.getElem?_map, List.getElem?_eq_getElem hj]
  simp [hj]
def roomB (ls : List Int) : D → Bool
  | .tup [a, b] => idxB a ls.length && (match a with | .int i => idxB b (ls.getD i.toNat 0) | _ => false)
  | _ => false
def pairK (d : D) : Bool := known d && (tupI d).all known
theorem two_of {xs : List D} (h : (xs.length : Int) = 2) : ∃ a b, xs = [a, b] := by
  match xs, h with
  | [a, b], _ => exact ⟨a, b, rfl⟩
  | [], h => simp at h
  | [_], h => simp at h
  | _ :: _ :: _ :: _, h => simp at h; omega
theorem is_room_of_ok (k : Nat) {ls : List Int} {d : D} (h : pairK d = true) : P.call (k + 3) 5 [.d (.lst (ls.map .int)), .d d] = .ok (.d (.bl (roomB ls d))) [] := by
  unfold pairK at h
  simp only [Bool.and_eq_true] at h
  obtain ⟨hk, hi⟩ := h
  rw [call_eq (fn := c_is_room_of) rfl, runF_eq rfl rfl]
  cases d with
  | tup xs =>
    by_cases h2 : (xs.length : Int) = 2
    · obtain ⟨a, b, rfl⟩ := two_of h2
      have ka : known a = true := List.all_eq_true.mp hi a (by simp [tupI])
      have kb : known b = true := List.all_eq_true.mp hi b (by simp [tupI])
      simp only [c_is_room_of, g_tuple, i_tuple hk, isTp, List.map_cons, List.map_nil, List.replicate, List.cons_append, List.nil_append, evSs, evS, evE, evEs, opd, slotOf, Es.slots, bindR_ok, bindR_ex, bl_ok, setS, snap_d, snap_l, p_add, p_sub, p_mul, p_mod, p_div, p_pow18, p_lt, p_le, p_gt, p_ge, p_eq, p_ne, p_ixL, p_ixT, p_neg, p_lenL, p_len2, p_ne22, p_int, p_abs, p_min, p_max, List.getD_cons_zero, List.getD_cons_succ, List.getD_nil, List.set_cons_zero, List.set_cons_succ, List.length_cons, List.length_nil, List.length_set, Option.map_some, decide_eq_true_eq, decide_true, decide_false, if_true, if_false, and_self, fin_rt, fin_nx, outsOf, Bool.false_eq_true, Nat.reduceSub, Nat.reduceAdd, Nat.reduceLT, Int.reduceNeg, Int.reducePow, Int.reduceLT, or_true, true_or, at0, at1, at2, at3, at4, put1, put2, put3, put4, evI, evP, evO, evA, slR, items, It.lk, ownIx, wipeE, backE, Option.toList, bindPt, bindPts, Es.lk, p_lst, p_tup, p_tupL, p_tupT, p_listL, p_listT, p_addT, p_addL, p_dic, List.append_nil, Bool.true_and, Bool.and_true, Bool.not_true, Bool.not_false, at20, at21, List.length_map, pcall (k + 2) 1 [none, none] _ _ _ rfl rfl (is_index_ok k ka)]
      cases h3 : idxB a (ls.length : Int) with
      | false => simp only [List.map_cons, List.map_nil, List.replicate, List.cons_append, List.nil_append, evSs, evS, evE, evEs, opd, slotOf, Es.slots, bindR_ok, bindR_ex, bl_ok, setS, snap_d, snap_l, p_add, p_sub, p_mul, p_mod, p_div, p_pow18, p_lt, p_le, p_gt, p_ge, p_eq, p_ne, p_ixL, p_ixT, p_neg, p_lenL, p_len2, p_ne22, p_int, p_abs, p_min, p_max, List.getD_cons_zero, List.getD_cons_succ, List.getD_nil, List.set_cons_zero, List.set_cons_succ, List.length_cons, List.length_nil, List.length_set, Option.map_some, decide_eq_true_eq, decide_true, decide_false, if_true, if_false, and_self, fin_rt, fin_nx, outsOf, Bool.false_eq_true, Nat.reduceSub, Nat.reduceAdd, Nat.reduceLT, Int.reduceNeg, Int.reducePow, Int.reduceLT, or_true, true_or, at0, at1, at2, at3, at4, put1, put2, put3, put4, evI, evP, evO, evA, slR, items, It.lk, ownIx, wipeE, backE, Option.toList, bindPt, bindPts, Es.lk, p_lst, p_tup, p_tupL, p_tupT, p_listL, p_listT, p_addT, p_addL, p_dic, List.append_nil, Bool.true_and, Bool.and_true, Bool.not_true, Bool.not_false, roomB, h3, Bool.false_and]
      | true =>
        cases a with
        | int i =>
          have h4 := h3
          unfold idxB at h4
          simp only [Bool.and_eq_true, decide_eq_true_eq] at h4
          simp only [List.map_cons, List.map_nil, List.replicate, List.cons_append, List.nil_append, evSs, evS, evE, evEs, opd, slotOf, Es.slots, bindR_ok, bindR_ex, bl_ok, setS, snap_d, snap_l, p_add, p_sub, p_mul, p_mod, p_div, p_pow18, p_lt, p_le, p_gt, p_ge, p_eq, p_ne, p_ixL, p_ixT, p_neg, p_lenL, p_len2, p_ne22, p_int, p_abs, p_min, p_max, List.getD_cons_zero, List.getD_cons_succ, List.getD_nil, List.set_cons_zero, List.set_cons_succ, List.length_cons, List.length_nil, List.length_set, Option.map_some, decide_eq_true_eq, decide_true, decide_false, if_true, if_false, and_self, fin_rt, fin_nx, outsOf, Bool.false_eq_true, Nat.reduceSub, Nat.reduceAdd, Nat.reduceLT, Int.reduceNeg, Int.reducePow, Int.reduceLT, or_true, true_or, at0, at1, at2, at3, at4, put1, put2, put3, put4, evI, evP, evO, evA, slR, items, It.lk, ownIx, wipeE, backE, Option.toList, bindPt, bindPts, Es.lk, p_lst, p_tup, p_tupL, p_tupT, p_listL, p_listT, p_addT, p_addL, p_dic, List.append_nil, Bool.true_and, Bool.and_true, Bool.not_true, Bool.not_false, at20, at21, at_map h4.1 h4.2, pcall (k + 2) 1 [none, none] _ _ _ rfl rfl (is_index_ok k kb), roomB, h3]
        | _ => cases h3
    · have e : roomB ls (.tup xs) = false := by
        match xs, h2 with
        | [a, b], h => exact absurd rfl h
        | [], _ => rfl
        | [_], _ => rfl
        | _ :: _ :: _ :: _, _ => rfl
      simp only [c_is_room_of, g_tuple, i_tuple hk, isTp, h2, List.map_cons, List.map_nil, List.replicate, List.cons_append, List.nil_append, evSs, evS, evE, evEs, opd, slotOf, Es.slots, bindR_ok, bindR_ex, bl_ok, setS, snap_d, snap_l, p_add, p_sub, p_mul, p_mod, p_div, p_pow18, p_lt, p_le, p_gt, p_ge, p_eq, p_ne, p_ixL, p_ixT, p_neg, p_lenL, p_lenT, p_int, p_abs, p_min, p_max, List.getD_cons_zero, List.getD_cons_succ, List.getD_nil, List.set_cons_zero, List.set_cons_succ, List.length_cons, List.length_nil, List.length_set, Option.map_some, decide_eq_true_eq, decide_true, decide_false, if_true, if_false, and_self, fin_rt, fin_nx, outsOf, Bool.false_eq_true, Nat.reduceSub, Nat.reduceAdd, Nat.reduceLT, Int.reduceNeg, Int.reducePow, Int.reduceLT, or_true, true_or, at0, at1, at2, at3, at4, put1, put2, put3, put4, evI, evP, evO, evA, slR, items, It.lk, ownIx, wipeE, backE, Option.toList, bindPt, bindPts, Es.lk, p_lst, p_tup, p_tupL, p_tupT, p_listL, p_listT, p_addT, p_addL, p_dic, List.append_nil, Bool.true_and, Bool.and_true, Bool.not_true, Bool.not_false, e]
  | _ => first | (cases hk; done) | (simp only [c_is_room_of, List.map_cons, List.map_nil, List.replicate, List.cons_append, List.nil_append, evSs, evS, evE, evEs, opd, slotOf, Es.slots, bindR_ok, bindR_ex, bl_ok, setS, snap_d, snap_l, p_add, p_sub, p_mul, p_mod, p_div, p_pow18, p_lt, p_le, p_gt, p_ge, p_eq, p_ne, p_ixL, p_ixT, p_neg, p_lenL, p_lenT, p_int, p_abs, p_min, p_max, List.getD_cons_zero, List.getD_cons_succ, List.getD_nil, List.set_cons_zero, List.set_cons_succ, List.length_cons, List.length_nil, List.length_set, Option.map_some, decide_eq_true_eq, decide_true, decide_false, if_true, if_false, and_self, fin_rt, fin_nx, outsOf, Bool.false_eq_true, Nat.reduceSub, Nat.reduceAdd, Nat.reduceLT, Int.reduceNeg, Int.reducePow, Int.reduceLT, or_true, true_or, at0, at1, at2, at3, at4, put1, put2, put3, put4, evI, evP, evO, evA, slR, items, It.lk, ownIx, wipeE, backE, Option.toList, bindPt, bindPts, Es.lk, p_lst, p_tup, p_tupL, p_tupT, p_listL, p_listT, p_addT, p_addL, p_dic, List.append_nil, Bool.true_and, Bool.and_true, Bool.not_true, Bool.not_false, g_tuple, i_tuple hk, isTp, roomB]; done)
def carryB (ls : List Int) : D → Bool
  | .tup [a, b] => roomB ls a && idxB b ls.length
  | _ => false
def carryK (d : D) : Bool := known d && (tupI d).all pairK
theorem is_carry_of_ok (k : Nat) {ls : List Int} {d : D} (h : carryK d = true) : P.call (k + 4) 6 [.d (.lst (ls.map .int)), .d d] = .ok (.d (.bl (carryB ls d))) [] := by
  unfold carryK at h
  simp only [Bool.and_eq_true] at h
  obtain ⟨hk, hi⟩ := h
  rw [call_eq (fn := c_is_carry_of) rfl, runF_eq rfl rfl]
  cases d with
  | tup xs =>
    by_cases h2 : (xs.length : Int) = 2
    · obtain ⟨a, b, rfl⟩ := two_of h2
      have ka : pairK a = true := List.all_eq_true.mp hi a (by simp [tupI])
      have kb : known b = true := by
        have := List.all_eq_true.mp hi b (by simp [tupI])
        unfold pairK at this
        simp only [Bool.and_eq_true] at this
        exact this.1
      simp only [c_is_carry_of, g_tuple, i_tuple hk, isTp, List.map_cons, List.map_nil, List.replicate, List.cons_append, List.nil_append, evSs, evS, evE, evEs, opd, slotOf, Es.slots, bindR_ok, bindR_ex, bl_ok, setS, snap_d, snap_l, p_add, p_sub, p_mul, p_mod, p_div, p_pow18, p_lt, p_le, p_gt, p_ge, p_eq, p_ne, p_ixL, p_ixT, p_neg, p_lenL, p_len2, p_ne22, p_int, p_abs, p_min, p_max, List.getD_cons_zero, List.getD_cons_succ, List.getD_nil, List.set_cons_zero, List.set_cons_succ, List.length_cons, List.length_nil, List.length_set, Option.map_some, decide_eq_true_eq, decide_true, decide_false, if_true, if_false, and_self, fin_rt, fin_nx, outsOf, Bool.false_eq_true, Nat.reduceSub, Nat.reduceAdd, Nat.reduceLT, Int.reduceNeg, Int.reducePow, Int.reduceLT, or_true, true_or, at0, at1, at2, at3, at4, put1, put2, put3, put4, evI, evP, evO, evA, slR, items, It.lk, ownIx, wipeE, backE, Option.toList, bindPt, bindPts, Es.lk, p_lst, p_tup, p_tupL, p_tupT, p_listL, p_listT, p_addT, p_addL, p_dic, List.append_nil, Bool.true_and, Bool.and_true, Bool.not_true, Bool.not_false, at20, at21, List.length_map, pcall (k + 3) 5 [none, none] _ _ _ rfl rfl (is_room_of_ok k ka)]
      cases h3 : roomB ls a with
      | false => simp only [List.map_cons, List.map_nil, List.replicate, List.cons_append, List.nil_append, evSs, evS, evE, evEs, opd, slotOf, Es.slots, bindR_ok, bindR_ex, bl_ok, setS, snap_d, snap_l, p_add, p_sub, p_mul, p_mod, p_div, p_pow18, p_lt, p_le, p_gt, p_ge, p_eq, p_ne, p_ixL, p_ixT, p_neg, p_lenL, p_len2, p_ne22, p_int, p_abs, p_min, p_max, List.getD_cons_zero, List.getD_cons_succ, List.getD_nil, List.set_cons_zero, List.set_cons_succ, List.length_cons, List.length_nil, List.length_set, Option.map_some, decide_eq_true_eq, decide_true, decide_false, if_true, if_false, and_self, fin_rt, fin_nx, outsOf, Bool.false_eq_true, Nat.reduceSub, Nat.reduceAdd, Nat.reduceLT, Int.reduceNeg, Int.reducePow, Int.reduceLT, or_true, true_or, at0, at1, at2, at3, at4, put1, put2, put3, put4, evI, evP, evO, evA, slR, items, It.lk, ownIx, wipeE, backE, Option.toList, bindPt, bindPts, Es.lk, p_lst, p_tup, p_tupL, p_tupT, p_listL, p_listT, p_addT, p_addL, p_dic, List.append_nil, Bool.true_and, Bool.and_true, Bool.not_true, Bool.not_false, carryB, h3, Bool.false_and]
      | true => simp only [List.map_cons, List.map_nil, List.replicate, List.cons_append, List.nil_append, evSs, evS, evE, evEs, opd, slotOf, Es.slots, bindR_ok, bindR_ex, bl_ok, setS, snap_d, snap_l, p_add, p_sub, p_mul, p_mod, p_div, p_pow18, p_lt, p_le, p_gt, p_ge, p_eq, p_ne, p_ixL, p_ixT, p_neg, p_lenL, p_len2, p_ne22, p_int, p_abs, p_min, p_max, List.getD_cons_zero, List.getD_cons_succ, List.getD_nil, List.set_cons_zero, List.set_cons_succ, List.length_cons, List.length_nil, List.length_set, Option.map_some, decide_eq_true_eq, decide_true, decide_false, if_true, if_false, and_self, fin_rt, fin_nx, outsOf, Bool.false_eq_true, Nat.reduceSub, Nat.reduceAdd, Nat.reduceLT, Int.reduceNeg, Int.reducePow, Int.reduceLT, or_true, true_or, at0, at1, at2, at3, at4, put1, put2, put3, put4, evI, evP, evO, evA, slR, items, It.lk, ownIx, wipeE, backE, Option.toList, bindPt, bindPts, Es.lk, p_lst, p_tup, p_tupL, p_tupT, p_listL, p_listT, p_addT, p_addL, p_dic, List.append_nil, Bool.true_and, Bool.and_true, Bool.not_true, Bool.not_false, at20, at21, List.length_map, pcall (k + 3) 1 [none, none] _ _ _ rfl rfl (is_index_ok (k + 1) kb), carryB, h3]
    · have e : carryB ls (.tup xs) = false := by
        match xs, h2 with
        | [a, b], h => exact absurd rfl h
        | [], _ => rfl
        | [_], _ => rfl
        | _ :: _ :: _ :: _, _ => rfl
      simp only [c_is_carry_of, g_tuple, i_tuple hk, isTp, h2, List.map_cons, List.map_nil, List.replicate, List.cons_append, List.nil_append, evSs, evS, evE, evEs, opd, slotOf, Es.slots, bindR_ok, bindR_ex, bl_ok, setS, snap_d, snap_l, p_add, p_sub, p_mul, p_mod, p_div, p_pow18, p_lt, p_le, p_gt, p_ge, p_eq, p_ne, p_ixL, p_ixT, p_neg, p_lenL, p_lenT, p_int, p_abs, p_min, p_max, List.getD_cons_zero, List.getD_cons_succ, List.getD_nil, List.set_cons_zero, List.set_cons_succ, List.length_cons, List.length_nil, List.length_set, Option.map_some, decide_eq_true_eq, decide_true, decide_false, if_true, if_false, and_self, fin_rt, fin_nx, outsOf, Bool.false_eq_true, Nat.reduceSub, Nat.reduceAdd, Nat.reduceLT, Int.reduceNeg, Int.reducePow, Int.reduceLT, or_true, true_or, at0, at1, at2, at3, at4, put1, put2, put3, put4, evI, evP, evO, evA, slR, items, It.lk, ownIx, wipeE, backE, Option.toList, bindPt, bindPts, Es.lk, p_lst, p_tup, p_tupL, p_tupT, p_listL, p_listT, p_addT, p_addL, p_dic, List.append_nil, Bool.true_and, Bool.and_true, Bool.not_true, Bool.not_false, e]
  | _ => first | (cases hk; done) | (simp only [c_is_carry_of, List.map_cons, List.map_nil, List.replicate, List.cons_append, List.nil_append, evSs, evS, evE, evEs, opd, slotOf, Es.slots, bindR_ok, bindR_ex, bl_ok, setS, snap_d, snap_l, p_add, p_sub, p_mul, p_mod, p_div, p_pow18, p_lt, p_le, p_gt, p_ge, p_eq, p_ne, p_ixL, p_ixT, p_neg, p_lenL, p_lenT, p_int, p_abs, p_min, p_max, List.getD_cons_zero, List.getD_cons_succ, List.getD_nil, List.set_cons_zero, List.set_cons_succ, List.length_cons, List.length_nil, List.length_set, Option.map_some, decide_eq_true_eq, decide_true, decide_false, if_true, if_false, and_self, fin_rt, fin_nx, outsOf, Bool.false_eq_true, Nat.reduceSub, Nat.reduceAdd, Nat.reduceLT, Int.reduceNeg, Int.reducePow, Int.reduceLT, or_true, true_or, at0, at1, at2, at3, at4, put1, put2, put3, put4, evI, evP, evO, evA, slR, items, It.lk, ownIx, wipeE, backE, Option.toList, bindPt, bindPts, Es.lk, p_lst, p_tup, p_tupL, p_tupT, p_listL, p_listT, p_addT, p_addL, p_dic, List.append_nil, Bool.true_and, Bool.and_true, Bool.not_true, Bool.not_false, g_tuple, i_tuple hk, isTp, carryB]; done)
def manyB (ls : List Int) (xs : List D) : Bool := decide ((xs.length : Int) ≤ 1000) && xs.all (carryB ls)
theorem are_carries_ok (k : Nat) {ls : List Int} {xs : List D} {d : D} (hd : d = .lst xs ∨ d = .tup xs) (h : xs.all carryK = true) : P.call (k + 5) 7 [.d (.lst (ls.map .int)), .d d] = .ok (.d (.bl (manyB ls xs))) [] := by
  rw [call_eq (fn := c_are_carries_of) rfl, runF_eq rfl rfl]
  by_cases hz : (xs.length : Int) ≤ 1000
  · rcases hd with rfl | rfl
    all_goals
      simp only [c_are_carries_of, List.map_cons, List.map_nil, List.replicate, List.cons_append, List.nil_append, evSs, evS, evE, evEs, opd, slotOf, Es.slots, bindR_ok, bindR_ex, bl_ok, setS, snap_d, snap_l, p_add, p_sub, p_mul, p_mod, p_div, p_pow18, p_lt, p_le, p_gt, p_ge, p_eq, p_ne, p_ixL, p_ixT, p_neg, p_lenL, p_lenT, p_int, p_abs, p_min, p_max, List.getD_cons_zero, List.getD_cons_succ, List.getD_nil, List.set_cons_zero, List.set_cons_succ, List.length_cons, List.length_nil, List.length_set, Option.map_some, decide_eq_true_eq, decide_true, decide_false, if_true, if_false, and_self, fin_rt, fin_nx, outsOf, Bool.false_eq_true, Nat.reduceSub, Nat.reduceAdd, Nat.reduceLT, Int.reduceNeg, Int.reducePow, Int.reduceLT, or_true, true_or, at0, at1, at2, at3, at4, put1, put2, put3, put4, evI, evP, evO, evA, slR, items, It.lk, ownIx, wipeE, backE, Option.toList, bindPt, bindPts, Es.lk, p_lst, p_tup, p_tupL, p_tupT, p_listL, p_listT, p_addT, p_addL, p_dic, List.append_nil, Bool.true_and, Bool.and_true, Bool.not_true, Bool.not_false, g_carries, hz]
      rw [lcL_m (f := fun d => .bl (carryB ls d)) (fun z hm => ?_) (by omega)]
      · simp only [List.map_cons, List.map_nil, List.replicate, List.cons_append, List.nil_append, evSs, evS, evE, evEs, opd, slotOf, Es.slots, bindR_ok, bindR_ex, bl_ok, setS, snap_d, snap_l, p_add, p_sub, p_mul, p_mod, p_div, p_pow18, p_lt, p_le, p_gt, p_ge, p_eq, p_ne, p_ixL, p_ixT, p_neg, p_lenL, p_lenT, p_int, p_abs, p_min, p_max, List.getD_cons_zero, List.getD_cons_succ, List.getD_nil, List.set_cons_zero, List.set_cons_succ, List.length_cons, List.length_nil, List.length_set, Option.map_some, decide_eq_true_eq, decide_true, decide_false, if_true, if_false, and_self, fin_rt, fin_nx, outsOf, Bool.false_eq_true, Nat.reduceSub, Nat.reduceAdd, Nat.reduceLT, Int.reduceNeg, Int.reducePow, Int.reduceLT, or_true, true_or, at0, at1, at2, at3, at4, put1, put2, put3, put4, evI, evP, evO, evA, slR, items, It.lk, ownIx, wipeE, backE, Option.toList, bindPt, bindPts, Es.lk, p_lst, p_tup, p_tupL, p_tupT, p_listL, p_listT, p_addT, p_addL, p_dic, List.append_nil, Bool.true_and, Bool.and_true, Bool.not_true, Bool.not_false, all_bl, manyB, hz]
      · simp only [List.map_cons, List.map_nil, List.replicate, List.cons_append, List.nil_append, evSs, evS, evE, evEs, opd, slotOf, Es.slots, bindR_ok, bindR_ex, bl_ok, setS, snap_d, snap_l, p_add, p_sub, p_mul, p_mod, p_div, p_pow18, p_lt, p_le, p_gt, p_ge, p_eq, p_ne, p_ixL, p_ixT, p_neg, p_lenL, p_lenT, p_int, p_abs, p_min, p_max, List.getD_cons_zero, List.getD_cons_succ, List.getD_nil, List.set_cons_zero, List.set_cons_succ, List.length_cons, List.length_nil, List.length_set, Option.map_some, decide_eq_true_eq, decide_true, decide_false, if_true, if_false, and_self, fin_rt, fin_nx, outsOf, Bool.false_eq_true, Nat.reduceSub, Nat.reduceAdd, Nat.reduceLT, Int.reduceNeg, Int.reducePow, Int.reduceLT, or_true, true_or, at0, at1, at2, at3, at4, put1, put2, put3, put4, evI, evP, evO, evA, slR, items, It.lk, ownIx, wipeE, backE, Option.toList, bindPt, bindPts, Es.lk, p_lst, p_tup, p_tupL, p_tupT, p_listL, p_listT, p_addT, p_addL, p_dic, List.append_nil, Bool.true_and, Bool.and_true, Bool.not_true, Bool.not_false, pcall (k + 4) 6 [none, none] _ _ _ rfl rfl (is_carry_of_ok k (List.all_eq_true.mp h z hm))]
  · rcases hd with rfl | rfl
    all_goals simp only [c_are_carries_of, List.map_cons, List.map_nil, List.replicate, List.cons_append, List.nil_append, evSs, evS, evE, evEs, opd, slotOf, Es.slots, bindR_ok, bindR_ex, bl_ok, setS, snap_d, snap_l, p_add, p_sub, p_mul, p_mod, p_div, p_pow18, p_lt, p_le, p_gt, p_ge, p_eq, p_ne, p_ixL, p_ixT, p_neg, p_lenL, p_lenT, p_int, p_abs, p_min, p_max, List.getD_cons_zero, List.getD_cons_succ, List.getD_nil, List.set_cons_zero, List.set_cons_succ, List.length_cons, List.length_nil, List.length_set, Option.map_some, decide_eq_true_eq, decide_true, decide_false, if_true, if_false, and_self, fin_rt, fin_nx, outsOf, Bool.false_eq_true, Nat.reduceSub, Nat.reduceAdd, Nat.reduceLT, Int.reduceNeg, Int.reducePow, Int.reduceLT, or_true, true_or, at0, at1, at2, at3, at4, put1, put2, put3, put4, evI, evP, evO, evA, slR, items, It.lk, ownIx, wipeE, backE, Option.toList, bindPt, bindPts, Es.lk, p_lst, p_tup, p_tupL, p_tupT, p_listL, p_listT, p_addT, p_addL, p_dic, List.append_nil, Bool.true_and, Bool.and_true, Bool.not_true, Bool.not_false, g_carries, hz, manyB, Bool.false_and]
theorem cut_to {ds : List D} {j : Nat} (h : j ≤ ds.length) : cutG ds none (some (j : Int)) = ds.take j := by
  unfold cutG
  rw [HT.sIx_none, HT.sIx_nat, List.drop_zero, Nat.sub_zero, Nat.min_eq_left h]
theorem cut_from {ds : List D} {j : Nat} (h : j ≤ ds.length) : cutG ds (some (j : Int)) none = ds.drop j := by
  unfold cutG
  rw [HT.sIx_none, HT.sIx_nat, Nat.min_eq_left h, List.take_of_length_le (by rw [List.length_drop]; omega)]
theorem cut_from1 {ds : List D} {j : Nat} (h : j < ds.length) : cutG ds (some ((j : Int) + 1)) none = ds.drop (j + 1) := by
  have := cut_from (ds := ds) (j := j + 1) h
  rw [← this]
  rfl
theorem cut_last {ds : List D} : cutG ds none (some (-1)) = ds.dropLast := by
  unfold cutG
  rw [HT.sIx_none, List.drop_zero, List.dropLast_eq_take]
  have e : HT.sIx ds.length ds.length (some (-1)) = ds.length - 1 := by
    show (if (-1 : Int) < 0 then ((-1 : Int) + (ds.length : Int)).toNat else min (-1 : Int).toNat ds.length) = _
    rw [if_pos (by decide)]
    omega
  rw [e, Nat.sub_zero]
theorem slT (ds : List D) (lo hi : Option Int) : slF (.tup ds) lo hi = some (.d (.tup (cutG ds lo hi))) := rfl
theorem slL (ds : List D) (lo hi : Option Int) : slF (.lst ds) lo hi = some (.l (cutG ds lo hi)) := rfl
/-- rows as a holding -/
def hold (rows : List (List D)) : D := .tup (rows.map .tup)
def putRow (rows : List (List D)) (b : Nat) (x : D) : List (List D) := rows.set b (x :: (rows.getD b []).dropLast)
theorem at_rows {rows : List (List D)} {b : Nat} (h : b < rows.length) : L2.atI (rows.map D.tup) (b : Int) = some (.tup (rows.getD b [])) := by
  refine L2.atI_nat ?_
  rw [List.getElem?_map, List.getElem?_eq_getElem h]
  simp [h]
theorem put_in_ok (k : Nat) {rows : List (List D)} {b : Nat} {x : D} (hb : b < rows.length) (hl : rows.length ≤ 1000) (hr : ∀ r ∈ rows, r.length ≤ 1000) : P.call (k + 1) 8 [.d (hold rows), .d (.int b), .d x] = .ok (.d (hold (putRow rows b x))) [] := by
  rw [call_eq (fn := c_put_in) rfl, runF_eq rfl rfl]
  have hm : (rows.map D.tup).length = rows.length := List.length_map ..
  have hrow : (rows.getD b []).length ≤ 1000 := by
    rw [List.getD_eq_getElem?_getD, List.getElem?_eq_getElem hb]
    exact hr _ (List.getElem_mem hb)
  have z1 : 1 + (rows.getD b []).dropLast.length ≤ sizeLine := small_le (by rw [List.length_dropLast]; omega)
  have z2 : ((rows.map D.tup).take b).length + 1 ≤ sizeLine := small_le (by rw [List.length_take, hm]; omega)
  have z3 : ((rows.map D.tup).take b).length + 1 + ((rows.map D.tup).drop (b + 1)).length ≤ sizeLine := small_le (by rw [List.length_take, List.length_drop, hm]; omega)
  simp only [c_put_in, hold, List.map_cons, List.map_nil, List.replicate, List.cons_append, List.nil_append, evSs, evS, evE, evEs, opd, slotOf, Es.slots, bindR_ok, bindR_ex, bl_ok, setS, snap_d, snap_l, p_add, p_sub, p_mul, p_mod, p_div, p_pow18, p_lt, p_le, p_gt, p_ge, p_eq, p_ne, p_ixL, p_ixT, p_neg, p_lenL, p_lenT, p_int, p_abs, p_min, p_max, List.getD_cons_zero, List.getD_cons_succ, List.getD_nil, List.set_cons_zero, List.set_cons_succ, List.length_cons, List.length_nil, List.length_set, Option.map_some, decide_eq_true_eq, decide_true, decide_false, if_true, if_false, and_self, fin_rt, fin_nx, outsOf, Bool.false_eq_true, Nat.reduceSub, Nat.reduceAdd, Nat.reduceLT, Int.reduceNeg, Int.reducePow, Int.reduceLT, or_true, true_or, at0, at1, at2, at3, at4, put1, put2, put3, put4, evI, evP, evO, evA, slR, items, It.lk, ownIx, wipeE, backE, Option.toList, bindPt, bindPts, Es.lk, p_lst, p_tup, p_tupL, p_tupT, p_listL, p_listT, p_addT, p_addL, p_dic, List.append_nil, Bool.true_and, Bool.and_true, Bool.not_true, Bool.not_false, slT, cut_to (ds := rows.map D.tup) (j := b) (by omega), cut_from1 (ds := rows.map D.tup) (j := b) (by omega), at_rows hb, cut_last, small_le (show 1 ≤ 1000000 by decide), List.length_append, z1, z2, z3]
  have e : (putRow rows b x).map D.tup = (rows.map D.tup).take b ++ [D.tup (x :: (rows.getD b []).dropLast)] ++ (rows.map D.tup).drop (b + 1) := by
    unfold putRow
    rw [List.map_set, List.set_eq_take_append_cons_drop, if_pos (by omega), List.append_assoc]
    rfl
  rw [e]
/-- rows that are a holding, of these lengths -/
structure GR (ls : List Nat) (rows : List (List D)) : Prop where
  len : rows.map List.length = ls
  itk : ∀ r ∈ rows, ∀ x ∈ r, known x = true ∧ itemB x = true
  lsB : lenB (ls.map fun (n : Nat) => (n : Int)) = true
theorem GR.cnt {ls : List Nat} {rows : List (List D)} (g : GR ls rows) : rows.length = ls.length := by rw [← g.len, List.length_map]
theorem lenB_facts {ls : List Nat} (h : lenB (ls.map fun (n : Nat) => (n : Int)) = true) : 1 ≤ ls.length ∧ ls.length ≤ 6 ∧ ∀ n ∈ ls, 1 ≤ n ∧ n ≤ 8 := by
  unfold lenB at h
  simp only [Bool.and_eq_true, decide_eq_true_eq, List.length_map, List.all_map, List.all_eq_true, Function.comp] at h
  obtain ⟨⟨⟨h1, h2⟩, h3⟩, h4⟩ := h
  refine ⟨by omega, by omega, fun n hn => ?_⟩
  have := h3 n hn
  omega
theorem GR.le6 {ls : List Nat} {rows : List (List D)} (g : GR ls rows) : rows.length ≤ 6 := by rw [g.cnt]; exact (lenB_facts g.lsB).2.1
theorem GR.row {ls : List Nat} {rows : List (List D)} (g : GR ls rows) {r : List D} (h : r ∈ rows) : 1 ≤ r.length ∧ r.length ≤ 8 := (lenB_facts g.lsB).2.2 _ (by rw [← g.len]; exact List.mem_map.mpr ⟨r, h, rfl⟩)
theorem GR.holdK {ls : List Nat} {rows : List (List D)} (g : GR ls rows) : holdK (hold rows) = true := by
  unfold W.holdK hold
  simp only [Bool.and_eq_true, decide_eq_true_eq, tupI]
  refine ⟨⟨rfl, decide_eq_true (show (rows.map D.tup).length ≤ 1000 by rw [List.length_map]; have := g.le6; omega)⟩, List.all_eq_true.mpr fun r hr => ?_⟩
  obtain ⟨xs, hx, rfl⟩ := List.mem_map.mp hr
  unfold rowK
  simp only [Bool.and_eq_true, decide_eq_true_eq, tupI]
  exact ⟨⟨rfl, decide_eq_true (show xs.length ≤ 1000 by have := (g.row hx).2; omega)⟩, List.all_eq_true.mpr fun x hxx => (g.itk xs hx x hxx).1⟩
theorem GR.holdB {ls : List Nat} {rows : List (List D)} (g : GR ls rows) : holdB (hold rows) = true := by
  unfold hold W.holdB
  simp only [Bool.and_eq_true, List.all_map, List.map_map]
  refine ⟨⟨List.all_eq_true.mpr fun _ _ => rfl, List.all_eq_true.mpr fun r hr => List.all_eq_true.mpr fun x hx => (g.itk r hr x hx).2⟩, ?_⟩
  have e : rows.map ((fun r => ((tupI r).length : Int)) ∘ D.tup) = ls.map fun (n : Nat) => (n : Int) := by rw [← g.len, List.map_map]; rfl
  rw [e]
  exact g.lsB
theorem getD_mem {rows : List (List D)} {b : Nat} (h : b < rows.length) : rows.getD b [] ∈ rows := by
  rw [List.getD_eq_getElem?_getD, List.getElem?_eq_getElem h]
  exact List.getElem_mem h
theorem GR.put {ls : List Nat} {rows : List (List D)} (g : GR ls rows) {b : Nat} {x : D} (hb : b < rows.length) (hx : known x = true ∧ itemB x = true) : GR ls (putRow rows b x) := by
  have hm := getD_mem hb
  have hr := g.row hm
  refine ⟨?_, fun r hr' y hy => ?_, g.lsB⟩
  · rw [← g.len]
    unfold putRow
    rw [List.map_set]
    refine List.ext_getElem? fun i => ?_
    by_cases hi : i = b
    · subst hi
      rw [List.getElem?_set_self (by rw [List.length_map]; exact hb), List.getElem?_map, List.getElem?_eq_getElem hb]
      have e : rows.getD i [] = rows[i] := by rw [List.getD_eq_getElem?_getD, List.getElem?_eq_getElem hb]; rfl
      rw [e] at hr ⊢
      rw [List.length_cons, List.length_dropLast, Option.map_some, Nat.sub_add_cancel hr.1]
    · rw [List.getElem?_set_ne (Ne.symm hi)]
  · unfold putRow at hr'
    rcases List.mem_or_eq_of_mem_set hr' with h | h
    · exact g.itk r h y hy
    · subst h
      rcases List.mem_cons.mp hy with h | h
      · subst h; exact hx
      · exact g.itk _ hm y ((List.dropLast_sublist _).subset h)
theorem idx_nat {b n : Nat} (h : b < n) : idxB (.int b) (n : Int) = true := by
  unfold idxB
  simp only [Bool.and_eq_true, decide_eq_true_eq]
  omega
theorem put_ok (k : Nat) {ls : List Nat} {rows : List (List D)} (g : GR ls rows) {b : Nat} {x : D} (hb : b < rows.length) : P.call (k + 4) 10 [.d (hold rows), .d (.int b), .d x] = .ok (.d (hold (putRow rows b x))) [] := by
  rw [call_eq (fn := c_put) rfl, runF_eq rfl rfl]
  have e1 := is_holding_ok k g.holdK
  rw [g.holdB] at e1
  have hl : primF (.bi .len) [hold rows] = some (.d (.int rows.length)) := by
    show some (T.d (.int ((rows.map D.tup).length : Int))) = _
    rw [List.length_map]
  have e2 := is_index_ok (k + 1) (d := .int b) (n := (rows.length : Int)) rfl
  rw [idx_nat hb] at e2
  have e3 := put_in_ok (k + 2) (rows := rows) (b := b) (x := x) hb (by have := g.le6; omega) fun r hr => by have := (g.row hr).2; omega
  simp only [c_put, List.map_cons, List.map_nil, List.replicate, List.cons_append, List.nil_append, evSs, evS, evE, evEs, opd, slotOf, Es.slots, bindR_ok, bindR_ex, bl_ok, setS, snap_d, snap_l, p_add, p_sub, p_mul, p_mod, p_div, p_pow18, p_lt, p_le, p_gt, p_ge, p_eq, p_ne, p_ixL, p_ixT, p_neg, p_lenL, p_lenT, p_int, p_abs, p_min, p_max, List.getD_cons_zero, List.getD_cons_succ, List.getD_nil, List.set_cons_zero, List.set_cons_succ, List.length_cons, List.length_nil, List.length_set, Option.map_some, decide_eq_true_eq, decide_true, decide_false, if_true, if_false, and_self, fin_rt, fin_nx, outsOf, Bool.false_eq_true, Nat.reduceSub, Nat.reduceAdd, Nat.reduceLT, Int.reduceNeg, Int.reducePow, Int.reduceLT, or_true, true_or, at0, at1, at2, at3, at4, put1, put2, put3, put4, evI, evP, evO, evA, slR, items, It.lk, ownIx, wipeE, backE, Option.toList, bindPt, bindPts, Es.lk, p_lst, p_tup, p_tupL, p_tupT, p_listL, p_listT, p_addT, p_addL, p_dic, List.append_nil, Bool.true_and, Bool.and_true, Bool.not_true, Bool.not_false, pcall (k + 3) 4 [none] _ _ _ rfl rfl e1, hl, pcall (k + 3) 1 [none, none] _ _ _ rfl rfl e2, pcall (k + 3) 8 [none, none, none] _ _ _ rfl rfl e3]
end W

set_option maxHeartbeats 8000000
namespace W
open AM PySem
structure Cy where
  i : Nat
  j : Nat
  g : Nat
def cD (c : Cy) : D := .tup [.tup [.int c.i, .int c.j], .int c.g]
def Cy.ok (ls : List Nat) (c : Cy) : Prop := c.i < ls.length ∧ c.j < ls.getD c.i 0 ∧ c.g < ls.length
def stepC (rows : List (List D)) (c : Cy) : List (List D) := putRow rows c.g ((rows.getD c.i []).getD c.j .non)
theorem GR.at {ls : List Nat} {rows : List (List D)} (g : GR ls rows) {i : Nat} (h : i < ls.length) : (rows.getD i []).length = ls.getD i 0 := by
  have hr : i < rows.length := by rw [g.cnt]; exact h
  rw [← g.len, List.getD_eq_getElem?_getD, List.getD_eq_getElem?_getD, List.getElem?_map, List.getElem?_eq_getElem hr]
  rfl
theorem GR.item {ls : List Nat} {rows : List (List D)} (g : GR ls rows) {c : Cy} (h : c.ok ls) : known ((rows.getD c.i []).getD c.j .non) = true ∧ itemB ((rows.getD c.i []).getD c.j .non) = true := by
  have hr : c.i < rows.length := by rw [g.cnt]; exact h.1
  have hj : c.j < (rows.getD c.i []).length := by rw [g.at h.1]; exact h.2.1
  refine g.itk _ (getD_mem hr) _ ?_
  rw [List.getD_eq_getElem?_getD (l := rows.getD c.i []), List.getElem?_eq_getElem hj]
  exact List.getElem_mem hj
theorem GR.step {ls : List Nat} {rows : List (List D)} (g : GR ls rows) {c : Cy} (h : c.ok ls) : GR ls (stepC rows c) := g.put (by rw [g.cnt]; exact h.2.2) (g.item h)
theorem GR.fold {ls : List Nat} : ∀ {cs : List Cy} {rows : List (List D)}, GR ls rows → (∀ c ∈ cs, c.ok ls) → GR ls (cs.foldl stepC rows)
  | [], _, g, _ => g
  | c :: cs, _, g, h => (g.step (h c List.mem_cons_self)).fold fun c' h' => h c' (List.mem_cons_of_mem _ h')
theorem at_row {r : List D} {j : Nat} (h : j < r.length) : L2.atI r (j : Int) = some (r.getD j .non) := by
  refine L2.atI_nat ?_
  rw [List.getElem?_eq_getElem h, List.getD_eq_getElem?_getD, List.getElem?_eq_getElem h]
  rfl
theorem done_ok (k : Nat) {ls : List Nat} {rows : List (List D)} (g : GR ls rows) {cs : List Cy} (hc : ∀ c ∈ cs, c.ok ls) {d : D} (hd : items d = some (cs.map cD)) : P.call (k + 2) 9 [.d (hold rows), .d d] = .ok (.d (hold (cs.foldl stepC rows))) [] := by
  rw [call_eq (fn := c_done) rfl, runF_eq rfl rfl]
  have body : c_done.body = .cons (.fo c_done.body.hd.foP c_done.body.hd.foI c_done.body.hd.foB) c_done.body.tl := rfl
  obtain ⟨env', e, x, y, z, he⟩ := forL_inv (b := turn ⟨P.call (k + 1), P.io, P.glob⟩ P.isa c_done.body.hd.foP c_done.body.hd.foB)
      (fun n env => ∃ x y z, env = [some (.d (hold ((cs.take n).foldl stepC rows))), none, x, y, z]) (cs.map cD) 0 [some (.d (hold rows)), none, none, none, none] (fun n d env hn hi => by
        obtain ⟨x, y, z, rfl⟩ := hi
        rw [Nat.zero_add] at *
        rw [List.getElem?_map] at hn
        cases hq : cs[n]? with
        | none => rw [hq] at hn; cases hn
        | some c =>
          rw [hq] at hn
          cases hn
          have hm : c ∈ cs := List.mem_of_getElem? hq
          have gg : GR ls ((cs.take n).foldl stepC rows) := g.fold fun c' h' => hc c' (List.mem_of_mem_take h')
          have hok := hc c hm
          have hi1 : c.i < ((cs.take n).foldl stepC rows).length := by rw [gg.cnt]; exact hok.1
          have hj1 : c.j < (((cs.take n).foldl stepC rows).getD c.i []).length := by rw [gg.at hok.1]; exact hok.2.1
          have hg1 : c.g < ((cs.take n).foldl stepC rows).length := by rw [gg.cnt]; exact hok.2.2
          have e3 := put_in_ok k (rows := (cs.take n).foldl stepC rows) (b := c.g) (x := ((((cs.take n).foldl stepC rows).getD c.i []).getD c.j .non)) hg1 (by have := gg.le6; omega) fun r hr => by have := (gg.row hr).2; omega
          have hs : (cs.take (n + 1)).foldl stepC rows = stepC ((cs.take n).foldl stepC rows) c := by
            rw [List.take_add_one, hq, Option.toList_some, List.foldl_append]
            rfl
          have ix1 : primF .ix [hold ((cs.take n).foldl stepC rows), .int c.i] = some (.d (.tup (((cs.take n).foldl stepC rows).getD c.i []))) := by
            show (L2.atI (((cs.take n).foldl stepC rows).map D.tup) (c.i : Int)).map T.d = _
            rw [at_rows hi1]
            rfl
          have ix2 : primF .ix [.tup (((cs.take n).foldl stepC rows).getD c.i []), .int c.j] = some (.d ((((cs.take n).foldl stepC rows).getD c.i []).getD c.j .non)) := by
            show (L2.atI (((cs.take n).foldl stepC rows).getD c.i []) (c.j : Int)).map T.d = _
            rw [at_row hj1]
            rfl
          rw [hs]
          simp only [turn, c_done, Ss.hd, S.foP, S.foB, cD, List.map_cons, List.map_nil, List.replicate, List.cons_append, List.nil_append, evSs, evS, evE, evEs, opd, slotOf, Es.slots, bindR_ok, bindR_ex, bl_ok, setS, snap_d, snap_l, p_add, p_sub, p_mul, p_mod, p_div, p_pow18, p_lt, p_le, p_gt, p_ge, p_eq, p_ne, p_ixL, p_ixT, p_neg, p_lenL, p_lenT, p_int, p_abs, p_min, p_max, List.getD_cons_zero, List.getD_cons_succ, List.getD_nil, List.set_cons_zero, List.set_cons_succ, List.length_cons, List.length_nil, List.length_set, Option.map_some, decide_eq_true_eq, decide_true, decide_false, if_true, if_false, and_self, fin_rt, fin_nx, outsOf, Bool.false_eq_true, Nat.reduceSub, Nat.reduceAdd, Nat.reduceLT, Int.reduceNeg, Int.reducePow, Int.reduceLT, or_true, true_or, at0, at1, at2, at3, at4, put1, put2, put3, put4, evI, evP, evO, evA, slR, items, It.lk, ownIx, wipeE, backE, Option.toList, bindPt, bindPts, Es.lk, p_lst, p_tup, p_tupL, p_tupT, p_listL, p_listT, p_addT, p_addL, p_dic, List.append_nil, Bool.true_and, Bool.and_true, Bool.not_true, Bool.not_false, ix1, ix2, pcall (k + 1) 8 [none, none, none] _ _ _ rfl rfl e3]
          exact ⟨_, rfl, _, _, _, rfl⟩) ⟨none, none, none, rfl⟩
  rw [Nat.zero_add, List.length_map, List.take_length] at he
  subst he
  rw [body]
  have hi : evI ⟨P.call (k + 1), P.io, P.glob⟩ c_done.body.hd.foI [some (.d (hold rows)), some (.d d), none, none, none] = .ok (cs.map cD) [some (.d (hold rows)), some (.d d), none, none, none] := by
    simp only [c_done, Ss.hd, S.foI, evI, opd, slotOf, List.getD_cons_succ, List.getD_cons_zero, bindR_ok, snap_d, hd]
  have e2 := evS_fo (is := P.isa) (p := c_done.body.hd.foP) (b := c_done.body.hd.foB) rfl hi e
  show fin [] (evSs _ _ (.cons _ c_done.body.tl) [some (.d (hold rows)), some (.d d), none, none, none]) = _
  rw [evSs_nx e2]
  show fin [] (evSs ⟨P.call (k + 1), P.io, P.glob⟩ P.isa c_done.body.tl [some (.d (hold (cs.foldl stepC rows))), some (.d d), x, y, z]) = _
  simp only [c_done, Ss.tl, List.map_cons, List.map_nil, List.replicate, List.cons_append, List.nil_append, evSs, evS, evE, evEs, opd, slotOf, Es.slots, bindR_ok, bindR_ex, bl_ok, setS, snap_d, snap_l, p_add, p_sub, p_mul, p_mod, p_div, p_pow18, p_lt, p_le, p_gt, p_ge, p_eq, p_ne, p_ixL, p_ixT, p_neg, p_lenL, p_lenT, p_int, p_abs, p_min, p_max, List.getD_cons_zero, List.getD_cons_succ, List.getD_nil, List.set_cons_zero, List.set_cons_succ, List.length_cons, List.length_nil, List.length_set, Option.map_some, decide_eq_true_eq, decide_true, decide_false, if_true, if_false, and_self, fin_rt, fin_nx, outsOf, Bool.false_eq_true, Nat.reduceSub, Nat.reduceAdd, Nat.reduceLT, Int.reduceNeg, Int.reducePow, Int.reduceLT, or_true, true_or, at0, at1, at2, at3, at4, put1, put2, put3, put4, evI, evP, evO, evA, slR, items, It.lk, ownIx, wipeE, backE, Option.toList, bindPt, bindPts, Es.lk, p_lst, p_tup, p_tupL, p_tupT, p_listL, p_listT, p_addT, p_addL, p_dic, List.append_nil, Bool.true_and, Bool.and_true, Bool.not_true, Bool.not_false]
end W

set_option maxHeartbeats 8000000
namespace W
open AM PySem
def toI (ls : List Nat) : List Int := ls.map fun (n : Nat) => (n : Int)
theorem toI_len (ls : List Nat) : (toI ls).length = ls.length := List.length_map ..
theorem toI_get (ls : List Nat) (i : Nat) : (toI ls).getD i 0 = ((ls.getD i 0 : Nat) : Int) := by
  unfold toI
  rw [List.getD_eq_getElem?_getD, List.getD_eq_getElem?_getD, List.getElem?_map]
  cases ls[i]? <;> rfl
theorem carryB_ok {ls : List Nat} {c : Cy} (h : c.ok ls) : carryB (toI ls) (cD c) = true := by
  unfold cD carryB roomB
  simp only [Bool.and_eq_true]
  rw [toI_len, Int.toNat_natCast, toI_get]
  exact ⟨⟨idx_nat h.1, idx_nat h.2.1⟩, idx_nat h.2.2⟩
theorem manyB_ok {ls : List Nat} {cs : List Cy} (h : ∀ c ∈ cs, c.ok ls) (hl : cs.length ≤ 1000) : manyB (toI ls) (cs.map cD) = true := by
  unfold manyB
  simp only [Bool.and_eq_true, decide_eq_true_eq, List.length_map]
  refine ⟨by omega, List.all_eq_true.mpr fun d hd => ?_⟩
  obtain ⟨c, hc, rfl⟩ := List.mem_map.mp hd
  exact carryB_ok (h c hc)
theorem cD_known (c : Cy) : carryK (cD c) = true := rfl
theorem lens_eq {ls : List Nat} {rows : List (List D)} (g : GR ls rows) : (rows.map D.tup).map (fun d => D.int (((tupI d).length : Nat) : Int)) = (toI ls).map D.int := by
  rw [← g.len]
  unfold toI
  rw [List.map_map, List.map_map, List.map_map]
  rfl
theorem carried_ok (k : Nat) {ls : List Nat} {rows : List (List D)} (g : GR ls rows) {cs : List Cy} (hc : ∀ c ∈ cs, c.ok ls) (hl : cs.length ≤ 1000) {d : D} (hd : d = .lst (cs.map cD) ∨ d = .tup (cs.map cD)) :
    P.call (k + 6) 11 [.d (hold rows), .d d] = .ok (.d (hold (cs.foldl stepC rows))) [] := by
  rw [call_eq (fn := c_carried) rfl, runF_eq rfl rfl]
  have e1 := is_holding_ok (k + 2) g.holdK
  rw [g.holdB] at e1
  have e2 := are_carries_ok k (ls := toI ls) hd (List.all_eq_true.mpr fun z hz => by obtain ⟨c, _, rfl⟩ := List.mem_map.mp hz; exact cD_known c)
  rw [manyB_ok hc hl] at e2
  have e3 := done_ok (k + 3) g hc (d := d) (by rcases hd with rfl | rfl <;> rfl)
  have it : items (hold rows) = some (rows.map D.tup) := rfl
  have is : primF (.bi .isinstance) [d, .tup [.ty "list", .ty "tuple"]] = some (.d (.bl true)) := by rcases hd with rfl | rfl <;> exact i_lt rfl
  simp only [c_carried, List.map_cons, List.map_nil, List.replicate, List.cons_append, List.nil_append, evSs, evS, evE, evEs, opd, slotOf, Es.slots, bindR_ok, bindR_ex, bl_ok, setS, snap_d, snap_l, p_add, p_sub, p_mul, p_mod, p_div, p_pow18, p_lt, p_le, p_gt, p_ge, p_eq, p_ne, p_ixL, p_ixT, p_neg, p_lenL, p_lenT, p_int, p_abs, p_min, p_max, List.getD_cons_zero, List.getD_cons_succ, List.getD_nil, List.set_cons_zero, List.set_cons_succ, List.length_cons, List.length_nil, List.length_set, Option.map_some, decide_eq_true_eq, decide_true, decide_false, if_true, if_false, and_self, fin_rt, fin_nx, outsOf, Bool.false_eq_true, Nat.reduceSub, Nat.reduceAdd, Nat.reduceLT, Int.reduceNeg, Int.reducePow, Int.reduceLT, or_true, true_or, at0, at1, at2, at3, at4, put1, put2, put3, put4, evI, evP, evO, evA, slR, It.lk, ownIx, wipeE, backE, Option.toList, bindPt, bindPts, Es.lk, p_lst, p_tup, p_tupL, p_tupT, p_listL, p_listT, p_addT, p_addL, p_dic, List.append_nil, Bool.true_and, Bool.and_true, Bool.not_true, Bool.not_false, it, pcall (k + 5) 4 [none] _ _ _ rfl rfl e1]
  rw [lcL_m (f := fun d => .int (((tupI d).length : Nat) : Int)) (fun r hr => ?_) (by rw [List.length_map]; have := g.le6; omega)]
  · rw [lens_eq g]
    simp only [List.map_cons, List.map_nil, List.replicate, List.cons_append, List.nil_append, evSs, evS, evE, evEs, opd, slotOf, Es.slots, bindR_ok, bindR_ex, bl_ok, setS, snap_d, snap_l, p_add, p_sub, p_mul, p_mod, p_div, p_pow18, p_lt, p_le, p_gt, p_ge, p_eq, p_ne, p_ixL, p_ixT, p_neg, p_lenL, p_lenT, p_int, p_abs, p_min, p_max, List.getD_cons_zero, List.getD_cons_succ, List.getD_nil, List.set_cons_zero, List.set_cons_succ, List.length_cons, List.length_nil, List.length_set, Option.map_some, decide_eq_true_eq, decide_true, decide_false, if_true, if_false, and_self, fin_rt, fin_nx, outsOf, Bool.false_eq_true, Nat.reduceSub, Nat.reduceAdd, Nat.reduceLT, Int.reduceNeg, Int.reducePow, Int.reduceLT, or_true, true_or, at0, at1, at2, at3, at4, put1, put2, put3, put4, evI, evP, evO, evA, slR, items, It.lk, ownIx, wipeE, backE, Option.toList, bindPt, bindPts, Es.lk, p_lst, p_tup, p_tupL, p_tupT, p_listL, p_listT, p_addT, p_addL, p_dic, List.append_nil, Bool.true_and, Bool.and_true, Bool.not_true, Bool.not_false, g_list, g_tuple, small_le (show 2 ≤ 1000000 by decide), is, pcall (k + 5) 7 [none, none] _ _ _ rfl rfl e2, pcall (k + 5) 9 [none, none] _ _ _ rfl rfl e3]
  · obtain ⟨xs, _, rfl⟩ := List.mem_map.mp hr
    simp only [List.map_cons, List.map_nil, List.replicate, List.cons_append, List.nil_append, evSs, evS, evE, evEs, opd, slotOf, Es.slots, bindR_ok, bindR_ex, bl_ok, setS, snap_d, snap_l, p_add, p_sub, p_mul, p_mod, p_div, p_pow18, p_lt, p_le, p_gt, p_ge, p_eq, p_ne, p_ixL, p_ixT, p_neg, p_lenL, p_lenT, p_int, p_abs, p_min, p_max, List.getD_cons_zero, List.getD_cons_succ, List.getD_nil, List.set_cons_zero, List.set_cons_succ, List.length_cons, List.length_nil, List.length_set, Option.map_some, decide_eq_true_eq, decide_true, decide_false, if_true, if_false, and_self, fin_rt, fin_nx, outsOf, Bool.false_eq_true, Nat.reduceSub, Nat.reduceAdd, Nat.reduceLT, Int.reduceNeg, Int.reducePow, Int.reduceLT, or_true, true_or, at0, at1, at2, at3, at4, put1, put2, put3, put4, evI, evP, evO, evA, slR, items, It.lk, ownIx, wipeE, backE, Option.toList, bindPt, bindPts, Es.lk, p_lst, p_tup, p_tupL, p_tupT, p_listL, p_listT, p_addT, p_addL, p_dic, List.append_nil, Bool.true_and, Bool.and_true, Bool.not_true, Bool.not_false, tupI]
end W

set_option maxHeartbeats 8000000
namespace W
open AM PySem
theorem at_lsts {rows : List (List D)} {b : Nat} (h : b < rows.length) : L2.atI (rows.map D.lst) (b : Int) = some (.lst (rows.getD b [])) := by
  refine L2.atI_nat ?_
  rw [List.getElem?_map, List.getElem?_eq_getElem h]
  simp [h]
theorem cut_len1 {ds : List D} (h : 1 ≤ ds.length) : cutG ds none (some ((ds.length : Int) - 1)) = ds.dropLast := by
  have e : (ds.length : Int) - 1 = ((ds.length - 1 : Nat) : Int) := by omega
  rw [e, cut_to (by omega), List.dropLast_eq_take]
theorem ixN_n {n j : Nat} (h : j < n) : L2.ixN n (j : Int) = some j := by
  unfold L2.ixN
  rw [if_pos (by omega), if_pos (by omega), Int.toNat_natCast]
theorem putR3 {b : Nat} {y : D} {xs : List D} {a0 a1 a2 a4 : Option T} (h : b < xs.length) : putR 3 (.int b) y [a0, a1, a2, some (.l xs), a4] = .ok .nx [a0, a1, a2, some (.l (xs.set b y)), a4] := by
  show (match L2.ixN xs.length (b : Int) with
    | some j => (R.ok Fl.nx [a0, a1, a2, some (.l (xs.set j y)), a4] : R Fl)
    | none => .no) = _
  rw [ixN_n h]
theorem set_lsts {rows : List (List D)} {b : Nat} {x : D} : (rows.map D.lst).set b (.lst (x :: (rows.getD b []).dropLast)) = (putRow rows b x).map D.lst := by
  unfold putRow
  rw [List.map_set]
end W

set_option maxHeartbeats 8000000
namespace W
open AM PySem
theorem draw_call (k : Nat) {ds : List D} {n : Int} (h : Die ds) (hn : 0 < n) (hm : n < 1073741824) : ∃ (r : Nat) (ds' : List D), (r : Int) < n ∧ Die ds' ∧ P.call (k + 1) 13 [.l ds, .d (.int n)] = .ok (.d (.int r)) [some (.l ds')] := by
  obtain ⟨r, ds', a1, a2, a3, e⟩ := draw_ok ⟨P.call k, P.io, P.glob⟩ P.isa h hn hm
  obtain ⟨j, rfl⟩ : ∃ j : Nat, r = j := ⟨r.toNat, by omega⟩
  refine ⟨j, ds', a2, a3, ?_⟩
  rw [call_eq (fn := c__law_draw) rfl]
  exact e
theorem dcall {k : Nat} {es : List (Option Nat)} {ts : List T} {env : AM.Env} {t : T} {o : Option T} {i : Nat} (h2 : ioOk [0] (some i :: es) = true) (h : P.call k 13 ts = .ok t [o]) : callK ⟨P.call k, P.io, P.glob⟩ 13 (some i :: es) ts env = .ok t (env.set i o) := callK_io rfl h2 h
theorem at_lens {ls : List Nat} {i : Nat} (h : i < ls.length) : L2.atI ((toI ls).map D.int) (i : Int) = some (.int ((ls.getD i 0 : Nat) : Int)) := by
  have := at_map (ls := toI ls) (i := (i : Int)) (by omega) (by rw [toI_len]; omega)
  rw [this, Int.toNat_natCast, toI_get]
theorem law_room_ok (k : Nat) {ls : List Nat} (hls : lenB (toI ls) = true) {ds : List D} (h : Die ds) : ∃ (i j : Nat) (ds' : List D), i < ls.length ∧ j < ls.getD i 0 ∧ Die ds' ∧ P.call (k + 2) 15 [.l ds, .d (.tup ((toI ls).map .int))] = .ok (.d (.tup [.int i, .int j])) [some (.l ds')] := by
  obtain ⟨f1, f2, f3⟩ := lenB_facts hls
  obtain ⟨i, d1, hi, h1, e1⟩ := draw_call k h (n := (ls.length : Int)) (by omega) (by omega)
  have hi : i < ls.length := by omega
  have hpos : 1 ≤ ls.getD i 0 ∧ ls.getD i 0 ≤ 8 := f3 _ (by
    rw [List.getD_eq_getElem?_getD, List.getElem?_eq_getElem hi]
    exact List.getElem_mem hi)
  obtain ⟨j, d2, hj, h2, e2⟩ := draw_call k h1 (n := ((ls.getD i 0 : Nat) : Int)) (by omega) (by omega)
  refine ⟨i, j, d2, hi, by omega, h2, ?_⟩
  rw [call_eq (fn := c__law_room) rfl, runF_eq rfl rfl]
  simp only [c__law_room, List.map_cons, List.map_nil, List.replicate, List.cons_append, List.nil_append, evSs, evS, evE, evEs, opd, slotOf, Es.slots, bindR_ok, bindR_ex, bl_ok, setS, snap_d, snap_l, p_add, p_sub, p_mul, p_mod, p_div, p_pow18, p_lt, p_le, p_gt, p_ge, p_eq, p_ne, p_ixL, p_ixT, p_neg, p_lenL, p_lenT, p_int, p_abs, p_min, p_max, List.getD_cons_zero, List.getD_cons_succ, List.getD_nil, List.set_cons_zero, List.set_cons_succ, List.length_cons, List.length_nil, List.length_set, Option.map_some, decide_eq_true_eq, decide_true, decide_false, if_true, if_false, and_self, fin_rt, fin_nx, outsOf, Bool.false_eq_true, Nat.reduceSub, Nat.reduceAdd, Nat.reduceLT, Int.reduceNeg, Int.reducePow, Int.reduceLT, or_true, true_or, at0, at1, at2, at3, at4, put1, put2, put3, put4, evI, evP, evO, evA, slR, items, It.lk, ownIx, wipeE, backE, Option.toList, bindPt, bindPts, Es.lk, p_lst, p_tup, p_tupL, p_tupT, p_listL, p_listT, p_addT, p_addL, p_dic, List.append_nil, Bool.true_and, Bool.and_true, Bool.not_true, Bool.not_false, List.length_map, toI_len, dcall (k := k + 1) (es := [none]) rfl e1, at_lens hi, dcall (k := k + 1) (es := [none]) rfl e2, small_le (show 2 ≤ 1000000 by decide)]
end W

set_option maxHeartbeats 8000000
namespace W
open AM PySem
theorem app4 {ds : List D} {a0 a1 a2 a3 a5 a6 : Option T} {x : D} (h : ds.length ≤ 1000) : appR 4 x [a0, a1, a2, a3, some (.l ds), a5, a6] = .ok .nx [a0, a1, a2, a3, some (.l (ds ++ [x])), a5, a6] := by
  show (if ds.length < sizeLine then (R.ok Fl.nx [a0, a1, a2, a3, some (.l (ds ++ [x])), a5, a6] : R Fl) else .no) = _
  rw [if_pos (Nat.lt_of_lt_of_le (Nat.lt_succ_of_le h) (small_le (by decide)))]
def LI (n : Nat) (env : AM.Env) : Prop := ∃ (ds : List D) (ls : List Nat) (left : Nat) (x y : Option T), Die ds ∧ (∀ m ∈ ls, 1 ≤ m ∧ m ≤ 8) ∧ ls.sum + left ≤ 12 ∧ ls.length ≤ n ∧ (1 ≤ ls.length ∨ 1 ≤ left) ∧
  env = [some (.l ds), some (.d (.int 1)), some (.d (.int 12)), some (.d (.int left)), some (.l ((toI ls).map .int)), x, y]
theorem min8 (left : Nat) : (if (8 : Int) < (left : Int) then (8 : Int) else (left : Int)) = ((min left 8 : Nat) : Int) := by
  by_cases h : (8 : Int) < (left : Int)
  · rw [if_pos h]; omega
  · rw [if_neg h]; omega
theorem toI_app (ls : List Nat) (m : Nat) : (toI ls).map D.int ++ [D.int m] = (toI (ls ++ [m])).map D.int := by
  unfold toI
  rw [List.map_append, List.map_append]
  rfl
theorem law_lengths_ok (k : Nat) {ds : List D} (h : Die ds) : ∃ (ls : List Nat) (ds' : List D), lenB (toI ls) = true ∧ Die ds' ∧ P.call (k + 2) 14 [.l ds, .d (.int 1), .d (.int 12)] = .ok (.d (.tup ((toI ls).map .int))) [some (.l ds')] := by
  have body : c__law_lengths.body = .cons c__law_lengths.body.hd (.cons c__law_lengths.body.tl.hd (.cons (.fo c__law_lengths.body.tl.tl.hd.foP c__law_lengths.body.tl.tl.hd.foI c__law_lengths.body.tl.tl.hd.foB) c__law_lengths.body.tl.tl.tl)) := rfl
  obtain ⟨r, d1, hr, h1, e1⟩ := draw_call k h (n := 12) (by omega) (by omega)
  have s1 : evS ⟨P.call (k + 1), P.io, P.glob⟩ P.isa c__law_lengths.body.hd [some (.l ds), some (.d (.int 1)), some (.d (.int 12)), none, none, none, none] = .ok .nx [some (.l d1), some (.d (.int 1)), some (.d (.int 12)), some (.d (.int ((1 + r : Nat) : Int))), none, none, none] := by
    have e0 : (12 : Int) - 1 + 1 = 12 := rfl
    simp only [c__law_lengths, Ss.hd, List.map_cons, List.map_nil, List.replicate, List.cons_append, List.nil_append, evSs, evS, evE, evEs, opd, slotOf, Es.slots, bindR_ok, bindR_ex, bl_ok, setS, snap_d, snap_l, p_add, p_sub, p_mul, p_mod, p_div, p_pow18, p_lt, p_le, p_gt, p_ge, p_eq, p_ne, p_ixL, p_ixT, p_neg, p_lenL, p_lenT, p_int, p_abs, p_min, p_max, List.getD_cons_zero, List.getD_cons_succ, List.getD_nil, List.set_cons_zero, List.set_cons_succ, List.length_cons, List.length_nil, List.length_set, Option.map_some, decide_eq_true_eq, decide_true, decide_false, if_true, if_false, and_self, fin_rt, fin_nx, outsOf, Bool.false_eq_true, Nat.reduceSub, Nat.reduceAdd, Nat.reduceLT, Int.reduceNeg, Int.reducePow, Int.reduceLT, or_true, true_or, at0, at1, at2, at3, at4, put1, put2, put3, put4, evI, evP, evO, evA, slR, items, It.lk, ownIx, wipeE, backE, Option.toList, bindPt, bindPts, Es.lk, p_lst, p_tup, p_tupL, p_tupT, p_listL, p_listT, p_addT, p_addL, p_dic, List.append_nil, Bool.true_and, Bool.and_true, Bool.not_true, Bool.not_false, e0, dcall (k := k + 1) (es := [none]) rfl e1]
    rfl
  have s2 : evS ⟨P.call (k + 1), P.io, P.glob⟩ P.isa c__law_lengths.body.tl.hd [some (.l d1), some (.d (.int 1)), some (.d (.int 12)), some (.d (.int ((1 + r : Nat) : Int))), none, none, none] = .ok .nx [some (.l d1), some (.d (.int 1)), some (.d (.int 12)), some (.d (.int ((1 + r : Nat) : Int))), some (.l []), none, none] := by
    simp only [c__law_lengths, Ss.hd, Ss.tl, List.map_cons, List.map_nil, List.replicate, List.cons_append, List.nil_append, evSs, evS, evE, evEs, opd, slotOf, Es.slots, bindR_ok, bindR_ex, bl_ok, setS, snap_d, snap_l, p_add, p_sub, p_mul, p_mod, p_div, p_pow18, p_lt, p_le, p_gt, p_ge, p_eq, p_ne, p_ixL, p_ixT, p_neg, p_lenL, p_lenT, p_int, p_abs, p_min, p_max, List.getD_cons_zero, List.getD_cons_succ, List.getD_nil, List.set_cons_zero, List.set_cons_succ, List.length_cons, List.length_nil, List.length_set, Option.map_some, decide_eq_true_eq, decide_true, decide_false, if_true, if_false, and_self, fin_rt, fin_nx, outsOf, Bool.false_eq_true, Nat.reduceSub, Nat.reduceAdd, Nat.reduceLT, Int.reduceNeg, Int.reducePow, Int.reduceLT, or_true, true_or, at0, at1, at2, at3, at4, put1, put2, put3, put4, evI, evP, evO, evA, slR, items, It.lk, ownIx, wipeE, backE, Option.toList, bindPt, bindPts, Es.lk, p_lst, p_tup, p_tupL, p_tupT, p_listL, p_listT, p_addT, p_addL, p_dic, List.append_nil, Bool.true_and, Bool.and_true, Bool.not_true, Bool.not_false, small_le (show 0 ≤ 1000000 by decide)]
  obtain ⟨env', e, d2, ls, left, x, y, h2, b1, b2, b3, b4, rfl⟩ := forL_inv (b := turn ⟨P.call (k + 1), P.io, P.glob⟩ P.isa c__law_lengths.body.tl.tl.hd.foP c__law_lengths.body.tl.tl.hd.foB) LI ((List.range 5).map fun (n : Nat) => D.int n) 0
      [some (.l d1), some (.d (.int 1)), some (.d (.int 12)), some (.d (.int ((1 + r : Nat) : Int))), some (.l []), none, none] (fun n d env hn hi => by
        obtain ⟨d2, ls, left, x, y, h2, b1, b2, b3, b4, rfl⟩ := hi
        have hn5 : n < 5 := by
          have := (List.getElem?_eq_some_iff.mp hn).1
          simpa using this
        have hd : ∃ j : Nat, d = .int j := by
          obtain ⟨j, _, rfl⟩ := List.mem_map.mp (List.mem_of_getElem? hn)
          exact ⟨j, rfl⟩
        obtain ⟨j, rfl⟩ := hd
        by_cases hl : 0 < (left : Int)
        · have hm : 0 < min left 8 := by omega
          obtain ⟨q, d3, hq, h3, e3⟩ := draw_call k h2 (n := ((min left 8 : Nat) : Int)) (by omega) (by omega)
          have hq' : q < min left 8 := by omega
          refine ⟨_, ?_, d3, ls ++ [1 + q], left - (1 + q), some (.d (.int j)), some (.d (.int ((1 + q : Nat) : Int))), h3, fun m hm => ?_, ?_, ?_, .inl ?_, rfl⟩
          · have e4 : (left : Int) - (1 + (q : Int)) = ((left - (1 + q) : Nat) : Int) := by omega
            have e5 : (1 : Int) + (q : Int) = ((1 + q : Nat) : Int) := by omega
            simp only [turn, c__law_lengths, Ss.hd, Ss.tl, S.foP, S.foB, List.map_cons, List.map_nil, List.replicate, List.cons_append, List.nil_append, evSs, evS, evE, evEs, opd, slotOf, Es.slots, bindR_ok, bindR_ex, bl_ok, setS, snap_d, snap_l, p_add, p_sub, p_mul, p_mod, p_div, p_pow18, p_lt, p_le, p_gt, p_ge, p_eq, p_ne, p_ixL, p_ixT, p_neg, p_lenL, p_lenT, p_int, p_abs, p_min, p_max, List.getD_cons_zero, List.getD_cons_succ, List.getD_nil, List.set_cons_zero, List.set_cons_succ, List.length_cons, List.length_nil, List.length_set, Option.map_some, decide_eq_true_eq, decide_true, decide_false, if_true, if_false, and_self, fin_rt, fin_nx, outsOf, Bool.false_eq_true, Nat.reduceSub, Nat.reduceAdd, Nat.reduceLT, Int.reduceNeg, Int.reducePow, Int.reduceLT, or_true, true_or, at0, at1, at2, at3, at4, put1, put2, put3, put4, evI, evP, evO, evA, slR, items, It.lk, ownIx, wipeE, backE, Option.toList, bindPt, bindPts, Es.lk, p_lst, p_tup, p_tupL, p_tupT, p_listL, p_listT, p_addT, p_addL, p_dic, List.append_nil, Bool.true_and, Bool.and_true, Bool.not_true, Bool.not_false, hl, min8, dcall (k := k + 1) (es := [none]) rfl e3, app4 (ds := (toI ls).map D.int) (by rw [List.length_map, toI_len]; omega), e4]
            rw [← toI_app, e5]
          · rcases List.mem_append.mp hm with z | z
            · exact b1 m z
            · have : m = 1 + q := by simpa using z
              omega
          · rw [List.sum_append]
            simp only [List.sum_cons, List.sum_nil]
            omega
          · rw [List.length_append, List.length_singleton]; omega
          · rw [List.length_append, List.length_singleton]; omega
        · refine ⟨_, ?_, d2, ls, left, some (.d (.int j)), y, h2, b1, b2, by omega, b4, rfl⟩
          simp only [turn, c__law_lengths, Ss.hd, Ss.tl, S.foP, S.foB, List.map_cons, List.map_nil, List.replicate, List.cons_append, List.nil_append, evSs, evS, evE, evEs, opd, slotOf, Es.slots, bindR_ok, bindR_ex, bl_ok, setS, snap_d, snap_l, p_add, p_sub, p_mul, p_mod, p_div, p_pow18, p_lt, p_le, p_gt, p_ge, p_eq, p_ne, p_ixL, p_ixT, p_neg, p_lenL, p_lenT, p_int, p_abs, p_min, p_max, List.getD_cons_zero, List.getD_cons_succ, List.getD_nil, List.set_cons_zero, List.set_cons_succ, List.length_cons, List.length_nil, List.length_set, Option.map_some, decide_eq_true_eq, decide_true, decide_false, if_true, if_false, and_self, fin_rt, fin_nx, outsOf, Bool.false_eq_true, Nat.reduceSub, Nat.reduceAdd, Nat.reduceLT, Int.reduceNeg, Int.reducePow, Int.reduceLT, or_true, true_or, at0, at1, at2, at3, at4, put1, put2, put3, put4, evI, evP, evO, evA, slR, items, It.lk, ownIx, wipeE, backE, Option.toList, bindPt, bindPts, Es.lk, p_lst, p_tup, p_tupL, p_tupT, p_listL, p_listT, p_addT, p_addL, p_dic, List.append_nil, Bool.true_and, Bool.and_true, Bool.not_true, Bool.not_false, hl]) ⟨d1, [], 1 + r, none, none, h1, (by intro m hm; simp at hm), (by simp only [List.sum_nil]; omega), (by simp), .inr (by omega), rfl⟩
  rw [Nat.zero_add, List.length_map, List.length_range] at b3
  have hi : evI ⟨P.call (k + 1), P.io, P.glob⟩ c__law_lengths.body.tl.tl.hd.foI [some (.l d1), some (.d (.int 1)), some (.d (.int 12)), some (.d (.int ((1 + r : Nat) : Int))), some (.l []), none, none] =
      .ok ((List.range 5).map fun (n : Nat) => D.int n) [some (.l d1), some (.d (.int 1)), some (.d (.int 12)), some (.d (.int ((1 + r : Nat) : Int))), some (.l []), none, none] := rfl
  have s3 := evS_fo (is := P.isa) (p := c__law_lengths.body.tl.tl.hd.foP) (b := c__law_lengths.body.tl.tl.hd.foB) rfl hi e
  have main : ∀ (fnd : List Nat), (∀ m ∈ fnd, 1 ≤ m ∧ m ≤ 8) → fnd.sum ≤ 12 → 1 ≤ fnd.length → fnd.length ≤ 6 → lenB (toI fnd) = true := fun fnd h1 h2 h3 h4 => by
    have hs : (toI fnd).sum = (fnd.sum : Int) := by
      clear h1 h2 h3 h4
      induction fnd with
      | nil => rfl
      | cons a l ih =>
        unfold toI at ih ⊢
        rw [List.map_cons, List.sum_cons, List.sum_cons, ih]
        omega
    unfold lenB
    simp only [Bool.and_eq_true, decide_eq_true_eq, toI_len, hs]
    refine ⟨⟨by omega, List.all_eq_true.mpr fun z hz => ?_⟩, by omega⟩
    unfold toI at hz
    obtain ⟨m, hm, rfl⟩ := List.mem_map.mp hz
    have := h1 m hm
    simp only [Bool.and_eq_true, decide_eq_true_eq]
    omega
  by_cases hl : 0 < (left : Int)
  · refine ⟨ls ++ [min left 8], d2, main _ (fun m hm => ?_) ?_ ?_ ?_, h2, ?_⟩
    · rcases List.mem_append.mp hm with z | z
      · exact b1 m z
      · have : m = min left 8 := by simpa using z
        omega
    · rw [List.sum_append]
      simp only [List.sum_cons, List.sum_nil]
      omega
    · rw [List.length_append, List.length_singleton]; omega
    · rw [List.length_append, List.length_singleton]; omega
    · rw [call_eq (fn := c__law_lengths) rfl, runF_eq rfl rfl, body]
      show fin [0] (evSs ⟨P.call (k + 1), P.io, P.glob⟩ P.isa (.cons _ (.cons _ (.cons _ _))) [some (.l ds), some (.d (.int 1)), some (.d (.int 12)), none, none, none, none]) = _
      rw [evSs_nx s1, evSs_nx s2, evSs_nx s3]
      show fin [0] (evSs ⟨P.call (k + 1), P.io, P.glob⟩ P.isa c__law_lengths.body.tl.tl.tl [some (.l d2), some (.d (.int 1)), some (.d (.int 12)), some (.d (.int left)), some (.l ((toI ls).map .int)), x, y]) = _
      simp only [c__law_lengths, Ss.tl, List.map_cons, List.map_nil, List.replicate, List.cons_append, List.nil_append, evSs, evS, evE, evEs, opd, slotOf, Es.slots, bindR_ok, bindR_ex, bl_ok, setS, snap_d, snap_l, p_add, p_sub, p_mul, p_mod, p_div, p_pow18, p_lt, p_le, p_gt, p_ge, p_eq, p_ne, p_ixL, p_ixT, p_neg, p_lenL, p_lenT, p_int, p_abs, p_min, p_max, List.getD_cons_zero, List.getD_cons_succ, List.getD_nil, List.set_cons_zero, List.set_cons_succ, List.length_cons, List.length_nil, List.length_set, Option.map_some, decide_eq_true_eq, decide_true, decide_false, if_true, if_false, and_self, fin_rt, fin_nx, outsOf, Bool.false_eq_true, Nat.reduceSub, Nat.reduceAdd, Nat.reduceLT, Int.reduceNeg, Int.reducePow, Int.reduceLT, or_true, true_or, at0, at1, at2, at3, at4, put1, put2, put3, put4, evI, evP, evO, evA, slR, items, It.lk, ownIx, wipeE, backE, Option.toList, bindPt, bindPts, Es.lk, p_lst, p_tup, p_tupL, p_tupT, p_listL, p_listT, p_addT, p_addL, p_dic, List.append_nil, Bool.true_and, Bool.and_true, Bool.not_true, Bool.not_false, hl, min8, app4 (ds := (toI ls).map D.int) (by rw [List.length_map, toI_len]; omega), toI_app]
  · refine ⟨ls, d2, main _ b1 (by omega) (by omega) (by omega), h2, ?_⟩
    rw [call_eq (fn := c__law_lengths) rfl, runF_eq rfl rfl, body]
    show fin [0] (evSs ⟨P.call (k + 1), P.io, P.glob⟩ P.isa (.cons _ (.cons _ (.cons _ _))) [some (.l ds), some (.d (.int 1)), some (.d (.int 12)), none, none, none, none]) = _
    rw [evSs_nx s1, evSs_nx s2, evSs_nx s3]
    show fin [0] (evSs ⟨P.call (k + 1), P.io, P.glob⟩ P.isa c__law_lengths.body.tl.tl.tl [some (.l d2), some (.d (.int 1)), some (.d (.int 12)), some (.d (.int left)), some (.l ((toI ls).map .int)), x, y]) = _
    simp only [c__law_lengths, Ss.tl, List.map_cons, List.map_nil, List.replicate, List.cons_append, List.nil_append, evSs, evS, evE, evEs, opd, slotOf, Es.slots, bindR_ok, bindR_ex, bl_ok, setS, snap_d, snap_l, p_add, p_sub, p_mul, p_mod, p_div, p_pow18, p_lt, p_le, p_gt, p_ge, p_eq, p_ne, p_ixL, p_ixT, p_neg, p_lenL, p_lenT, p_int, p_abs, p_min, p_max, List.getD_cons_zero, List.getD_cons_succ, List.getD_nil, List.set_cons_zero, List.set_cons_succ, List.length_cons, List.length_nil, List.length_set, Option.map_some, decide_eq_true_eq, decide_true, decide_false, if_true, if_false, and_self, fin_rt, fin_nx, outsOf, Bool.false_eq_true, Nat.reduceSub, Nat.reduceAdd, Nat.reduceLT, Int.reduceNeg, Int.reducePow, Int.reduceLT, or_true, true_or, at0, at1, at2, at3, at4, put1, put2, put3, put4, evI, evP, evO, evA, slR, items, It.lk, ownIx, wipeE, backE, Option.toList, bindPt, bindPts, Es.lk, p_lst, p_tup, p_tupL, p_tupT, p_listL, p_listT, p_addT, p_addL, p_dic, List.append_nil, Bool.true_and, Bool.and_true, Bool.not_true, Bool.not_false, hl]
end W

set_option maxHeartbeats 8000000
namespace W
open AM PySem
def big40 : Int := 10000000000000000000000000000000000000000
theorem p_pow40 : primF (.bin .Pow) [.int 10, .int 40] = some (.d (.int big40)) := by
  rw [p_pow, if_pos (by decide)]
  rfl
def pool : List D := [.non, .str "x", .str "y", .str "zz", .str "", .int 0, .int 1, .int (-5), .int big40, .str "X 1"]
theorem pool_at {r : Nat} (h : (r : Int) < 10) : ∃ x, x ∈ pool ∧ L2.atI pool (r : Int) = some x := by
  have hr : r < pool.length := by show r < 10; omega
  exact ⟨pool[r], List.getElem_mem hr, L2.atI_nat (List.getElem?_eq_getElem hr)⟩
def itemOk (x : D) : Prop := known x = true ∧ itemB x = true ∧ Sh 0 x
theorem pool_ok {x : D} (h : x ∈ pool) : itemOk x := by
  unfold pool at h
  simp only [List.mem_cons, List.mem_nil_iff, or_false] at h
  rcases h with rfl | rfl | rfl | rfl | rfl | rfl | rfl | rfl | rfl | rfl <;> exact ⟨rfl, rfl, by first | exact sh_non | exact sh_int _ | exact sh_st (by decide +kernel)⟩
theorem w_draw {k i : Nat} {ds : List D} {n : Int} {env : AM.Env} {Q : T → AM.Env → Prop} {E : X → AM.Env → Prop} (h : Die ds) (hn : 0 < n) (hm : n < 1073741824) (hq : ∀ (r : Nat) (ds' : List D), (r : Int) < n → Die ds' → Q (.d (.int r)) (env.set i (some (.l ds')))) : (callK ⟨P.call (k + 1), P.io, P.glob⟩ 13 [some i, none] [.l ds, .d (.int n)] env).wp Q E := by
  obtain ⟨r, ds', h1, h2, e⟩ := draw_call k h hn hm
  exact wp_chg e rfl rfl (hq r ds' h1 h2)
theorem gr_of {ls : List Nat} {rows : List (List D)} (hl : rows.map List.length = ls) (hls : lenB (toI ls) = true) (hp : ∀ r ∈ rows, ∀ x ∈ r, itemOk x) : GR ls rows := ⟨hl, fun r hr x hx => ⟨(hp r hr x hx).1, (hp r hr x hx).2.1⟩, hls⟩
/-- one row drawn, the rows so far behind it -/
theorem w_holding {k i : Nat} {ls : List Nat} (hls : lenB (toI ls) = true) {ds : List D} {env : AM.Env} {Q : T → AM.Env → Prop} {E : X → AM.Env → Prop} (h : Die ds) (hq : ∀ (rows : List (List D)) (ds' : List D), GR ls rows → (∀ r ∈ rows, ∀ x ∈ r, itemOk x) → Die ds' → Q (.d (hold rows)) (env.set i (some (.l ds')))) :
    (callK ⟨P.call (k + 2), P.io, P.glob⟩ 16 [some i, none] [.l ds, .d (.tup ((toI ls).map .int))] env).wp Q E := by
  obtain ⟨f1, f2, f3⟩ := lenB_facts hls
  refine wp_run (fn := c__law_holding) rfl rfl rfl rfl ?_
  simp only [c__law_holding, wp_ok, wp_ex, wp_bind, bnd_ok, bnd_ex, bl_bind, boolR_b, cond_t, cond_f, e_cst, e_var, varR_d, someR_s, e_prim, e_sl, e_slv, e_and, e_or, e_one, e_not, e_tru, e_ife, e_chain, e_call, e_lc, e_pop, s_nil, s_cons, o_no, o_yes, intR_i, pt_no, pt_yes, es_nil, es_val, es_vw, a_nil, a_val, a_vw, it_seq, it_rng, it_enum, opd_n, opd_s, t_set, t_unp, t_par, t_setIx, ownR_l, valR_d, t_aug, t_exp, t_app, frzR_s, t_frz, setS_lt, t_ife, t_ret, t_mov, t_retN, t_brk, t_cnt, t_pass, t_rais, t_tr, wp_try, h_nil, h_cons, then_nx, then_rt, then_bk, then_ct, b_nil, b_cons, after_nx, after_ct, after_bk, after_rt, after_no, after_so, fin_qn, fin_qr, so_vw, so_cst, so_var, so_glob, so_prim, so_sl, so_and, so_or, so_not, so_ife, so_one, so_tru, so_chain, so_call, so_lc, so_pop, snap_d, snap_l, Option.isSome_some, List.getD_cons_zero, List.getD_cons_succ, List.set_cons_zero, List.set_cons_succ, List.length_cons, List.length_nil, Nat.reduceAdd, Nat.reduceSub, Nat.reduceLT, Nat.reduceLeDiff, List.map_cons, List.map_nil, List.replicate, List.cons_append, List.nil_append, List.append_nil, outsOf, wipeE, backE, ownIx, putOuts, Option.toList, It.lk, Es.lk, items_l, items_t, slR_e, sl_t, sl_l, if_true, if_false, Bool.false_eq_true, Bool.true_and, Bool.and_true, Bool.not_true, Bool.not_false, Option.map_some, decide_true, decide_false, q_tup, q_lst, p_add, p_sub, p_mul, p_mod, p_div, p_pow18, p_lt, p_le, p_gt, p_ge, p_eq, p_ne, p_ixL, p_ixT, p_neg, p_lenL, p_lenT, p_int, p_intB, p_abs, p_min, p_max, p_tupL, p_tupT, p_listL, p_listT, p_dic]
  refine wp_fo (ds := (toI ls).map D.int) (fun n env => ∃ (d2 : List D) (rows : List (List D)) (y z w : Option T), Die d2 ∧ rows.map List.length = ls.take n ∧ (∀ r ∈ rows, ∀ x ∈ r, itemOk x) ∧ env = [some (.l d2), none, some (.l (rows.map .tup)), y, z, w]) (env0 := [some (.l ds), some (.d (.tup ((toI ls).map .int))), some (.l []), none, none, none]) rfl (by simp only [wp_ok, wp_ex, wp_bind, bnd_ok, bnd_ex, bl_bind, boolR_b, cond_t, cond_f, e_cst, e_var, varR_d, someR_s, e_prim, e_sl, e_slv, e_and, e_or, e_one, e_not, e_tru, e_ife, e_chain, e_call, e_lc, e_pop, s_nil, s_cons, o_no, o_yes, intR_i, pt_no, pt_yes, es_nil, es_val, es_vw, a_nil, a_val, a_vw, it_seq, it_rng, it_enum, opd_n, opd_s, t_set, t_unp, t_par, t_setIx, ownR_l, valR_d, t_aug, t_exp, t_app, frzR_s, t_frz, setS_lt, t_ife, t_ret, t_mov, t_retN, t_brk, t_cnt, t_pass, t_rais, t_tr, wp_try, h_nil, h_cons, then_nx, then_rt, then_bk, then_ct, b_nil, b_cons, after_nx, after_ct, after_bk, after_rt, after_no, after_so, fin_qn, fin_qr, so_vw, so_cst, so_var, so_glob, so_prim, so_sl, so_and, so_or, so_not, so_ife, so_one, so_tru, so_chain, so_call, so_lc, so_pop, snap_d, snap_l, Option.isSome_some, List.getD_cons_zero, List.getD_cons_succ, List.set_cons_zero, List.set_cons_succ, List.length_cons, List.length_nil, Nat.reduceAdd, Nat.reduceSub, Nat.reduceLT, Nat.reduceLeDiff, List.map_cons, List.map_nil, List.replicate, List.cons_append, List.nil_append, List.append_nil, outsOf, wipeE, backE, ownIx, putOuts, Option.toList, It.lk, Es.lk, items_l, items_t, slR_e, sl_t, sl_l, if_true, if_false, Bool.false_eq_true, Bool.true_and, Bool.and_true, Bool.not_true, Bool.not_false, Option.map_some, decide_true, decide_false, q_tup, q_lst, p_add, p_sub, p_mul, p_mod, p_div, p_pow18, p_lt, p_le, p_gt, p_ge, p_eq, p_ne, p_ixL, p_ixT, p_neg, p_lenL, p_lenT, p_int, p_intB, p_abs, p_min, p_max, p_tupL, p_tupT, p_listL, p_listT, p_dic]) ⟨ds, [], _, _, _, h, rfl, (fun r hr => by simp at hr), rfl⟩ ?_ ?_
  · rintro env2 ⟨d2, rows, y, z, w, h2, hl, hp, rfl⟩
    simp only [wp_ok, wp_ex, wp_bind, bnd_ok, bnd_ex, bl_bind, boolR_b, cond_t, cond_f, e_cst, e_var, varR_d, someR_s, e_prim, e_sl, e_slv, e_and, e_or, e_one, e_not, e_tru, e_ife, e_chain, e_call, e_lc, e_pop, s_nil, s_cons, o_no, o_yes, intR_i, pt_no, pt_yes, es_nil, es_val, es_vw, a_nil, a_val, a_vw, it_seq, it_rng, it_enum, opd_n, opd_s, t_set, t_unp, t_par, t_setIx, ownR_l, valR_d, t_aug, t_exp, t_app, frzR_s, t_frz, setS_lt, t_ife, t_ret, t_mov, t_retN, t_brk, t_cnt, t_pass, t_rais, t_tr, wp_try, h_nil, h_cons, then_nx, then_rt, then_bk, then_ct, b_nil, b_cons, after_nx, after_ct, after_bk, after_rt, after_no, after_so, fin_qn, fin_qr, so_vw, so_cst, so_var, so_glob, so_prim, so_sl, so_and, so_or, so_not, so_ife, so_one, so_tru, so_chain, so_call, so_lc, so_pop, snap_d, snap_l, Option.isSome_some, List.getD_cons_zero, List.getD_cons_succ, List.set_cons_zero, List.set_cons_succ, List.length_cons, List.length_nil, Nat.reduceAdd, Nat.reduceSub, Nat.reduceLT, Nat.reduceLeDiff, List.map_cons, List.map_nil, List.replicate, List.cons_append, List.nil_append, List.append_nil, outsOf, wipeE, backE, ownIx, putOuts, Option.toList, It.lk, Es.lk, items_l, items_t, slR_e, sl_t, sl_l, if_true, if_false, Bool.false_eq_true, Bool.true_and, Bool.and_true, Bool.not_true, Bool.not_false, Option.map_some, decide_true, decide_false, q_tup, q_lst, p_add, p_sub, p_mul, p_mod, p_div, p_pow18, p_lt, p_le, p_gt, p_ge, p_eq, p_ne, p_ixL, p_ixT, p_neg, p_lenL, p_lenT, p_int, p_intB, p_abs, p_min, p_max, p_tupL, p_tupT, p_listL, p_listT, p_dic]
    rw [List.length_map, toI_len, List.take_of_length_le (Nat.le_refl _)] at hl
    exact hq rows d2 (gr_of hl hls hp) hp h2
  · rintro n d env2 hd ⟨d2, rows, y, z, w, h2, hl, hp, rfl⟩
    have hn : n < ls.length := by
      have := (List.getElem?_eq_some_iff.mp hd).1
      rwa [List.length_map, toI_len] at this
    obtain ⟨m, hm0, hm, rfl⟩ : ∃ m : Nat, ls[n]? = some m ∧ m ≤ 8 ∧ d = .int m := by
      refine ⟨ls[n], List.getElem?_eq_getElem hn, (f3 _ (List.getElem_mem hn)).2, ?_⟩
      unfold toI at hd
      rw [List.map_map, List.getElem?_map, List.getElem?_eq_getElem hn] at hd
      simpa using hd.symm
    rw [turn_n _ _ _ _ _ _ (by show 3 < 6; decide)]
    simp only [b__law_holding_1, wp_ok, wp_ex, wp_bind, bnd_ok, bnd_ex, bl_bind, boolR_b, cond_t, cond_f, e_cst, e_var, varR_d, someR_s, e_prim, e_sl, e_slv, e_and, e_or, e_one, e_not, e_tru, e_ife, e_chain, e_call, e_lc, e_pop, s_nil, s_cons, o_no, o_yes, intR_i, pt_no, pt_yes, es_nil, es_val, es_vw, a_nil, a_val, a_vw, it_seq, it_rng, it_enum, opd_n, opd_s, t_set, t_unp, t_par, t_setIx, ownR_l, valR_d, t_aug, t_exp, t_app, frzR_s, t_frz, setS_lt, t_ife, t_ret, t_mov, t_retN, t_brk, t_cnt, t_pass, t_rais, t_tr, wp_try, h_nil, h_cons, then_nx, then_rt, then_bk, then_ct, b_nil, b_cons, after_nx, after_ct, after_bk, after_rt, after_no, after_so, fin_qn, fin_qr, so_vw, so_cst, so_var, so_glob, so_prim, so_sl, so_and, so_or, so_not, so_ife, so_one, so_tru, so_chain, so_call, so_lc, so_pop, snap_d, snap_l, Option.isSome_some, List.getD_cons_zero, List.getD_cons_succ, List.set_cons_zero, List.set_cons_succ, List.length_cons, List.length_nil, Nat.reduceAdd, Nat.reduceSub, Nat.reduceLT, Nat.reduceLeDiff, List.map_cons, List.map_nil, List.replicate, List.cons_append, List.nil_append, List.append_nil, outsOf, wipeE, backE, ownIx, putOuts, Option.toList, It.lk, Es.lk, items_l, items_t, slR_e, sl_t, sl_l, if_true, if_false, Bool.false_eq_true, Bool.true_and, Bool.and_true, Bool.not_true, Bool.not_false, Option.map_some, decide_true, decide_false, q_tup, q_lst, p_add, p_sub, p_mul, p_mod, p_div, p_pow18, p_lt, p_le, p_gt, p_ge, p_eq, p_ne, p_ixL, p_ixT, p_neg, p_lenL, p_lenT, p_int, p_intB, p_abs, p_min, p_max, p_tupL, p_tupT, p_listL, p_listT, p_dic]
    refine wp_fo (ds := (List.range m).map fun (n : Nat) => D.int n) (fun j env => ∃ (d3 : List D) (its : List D) (w : Option T), Die d3 ∧ its.length = j ∧ (∀ x ∈ its, itemOk x) ∧ env = [some (.l d3), none, some (.l (rows.map .tup)), some (.d (.int m)), some (.l its), w]) (env0 := [some (.l d2), none, some (.l (rows.map .tup)), some (.d (.int m)), some (.l []), w]) ?_ ?_ ?_ ?_ ?_
    · rfl
    · simp only [rng_to _ (show m ≤ 1000000 by omega), wp_ok, wp_ex, wp_bind, bnd_ok, bnd_ex, bl_bind, boolR_b, cond_t, cond_f, e_cst, e_var, varR_d, someR_s, e_prim, e_sl, e_slv, e_and, e_or, e_one, e_not, e_tru, e_ife, e_chain, e_call, e_lc, e_pop, s_nil, s_cons, o_no, o_yes, intR_i, pt_no, pt_yes, es_nil, es_val, es_vw, a_nil, a_val, a_vw, it_seq, it_rng, it_enum, opd_n, opd_s, t_set, t_unp, t_par, t_setIx, ownR_l, valR_d, t_aug, t_exp, t_app, frzR_s, t_frz, setS_lt, t_ife, t_ret, t_mov, t_retN, t_brk, t_cnt, t_pass, t_rais, t_tr, wp_try, h_nil, h_cons, then_nx, then_rt, then_bk, then_ct, b_nil, b_cons, after_nx, after_ct, after_bk, after_rt, after_no, after_so, fin_qn, fin_qr, so_vw, so_cst, so_var, so_glob, so_prim, so_sl, so_and, so_or, so_not, so_ife, so_one, so_tru, so_chain, so_call, so_lc, so_pop, snap_d, snap_l, Option.isSome_some, List.getD_cons_zero, List.getD_cons_succ, List.set_cons_zero, List.set_cons_succ, List.length_cons, List.length_nil, Nat.reduceAdd, Nat.reduceSub, Nat.reduceLT, Nat.reduceLeDiff, List.map_cons, List.map_nil, List.replicate, List.cons_append, List.nil_append, List.append_nil, outsOf, wipeE, backE, ownIx, putOuts, Option.toList, It.lk, Es.lk, items_l, items_t, slR_e, sl_t, sl_l, if_true, if_false, Bool.false_eq_true, Bool.true_and, Bool.and_true, Bool.not_true, Bool.not_false, Option.map_some, decide_true, decide_false, q_tup, q_lst, p_add, p_sub, p_mul, p_mod, p_div, p_pow18, p_lt, p_le, p_gt, p_ge, p_eq, p_ne, p_ixL, p_ixT, p_neg, p_lenL, p_lenT, p_int, p_intB, p_abs, p_min, p_max, p_tupL, p_tupT, p_listL, p_listT, p_dic]
    · exact ⟨d2, [], _, h2, rfl, (fun x hx => by simp at hx), rfl⟩
    · rintro env3 ⟨d3, its, w, h3, hj, hp3, rfl⟩
      rw [List.length_map, List.length_range] at hj
      have hrl : rows.length ≤ 6 := by
        have := congrArg List.length hl
        rw [List.length_map, List.length_take] at this
        omega
      simp only [wp_ok, wp_ex, wp_bind, bnd_ok, bnd_ex, bl_bind, boolR_b, cond_t, cond_f, e_cst, e_var, varR_d, someR_s, e_prim, e_sl, e_slv, e_and, e_or, e_one, e_not, e_tru, e_ife, e_chain, e_call, e_lc, e_pop, s_nil, s_cons, o_no, o_yes, intR_i, pt_no, pt_yes, es_nil, es_val, es_vw, a_nil, a_val, a_vw, it_seq, it_rng, it_enum, opd_n, opd_s, t_set, t_unp, t_par, t_setIx, ownR_l, valR_d, t_aug, t_exp, t_app, frzR_s, t_frz, setS_lt, t_ife, t_ret, t_mov, t_retN, t_brk, t_cnt, t_pass, t_rais, t_tr, wp_try, h_nil, h_cons, then_nx, then_rt, then_bk, then_ct, b_nil, b_cons, after_nx, after_ct, after_bk, after_rt, after_no, after_so, fin_qn, fin_qr, so_vw, so_cst, so_var, so_glob, so_prim, so_sl, so_and, so_or, so_not, so_ife, so_one, so_tru, so_chain, so_call, so_lc, so_pop, snap_d, snap_l, Option.isSome_some, List.getD_cons_zero, List.getD_cons_succ, List.set_cons_zero, List.set_cons_succ, List.length_cons, List.length_nil, Nat.reduceAdd, Nat.reduceSub, Nat.reduceLT, Nat.reduceLeDiff, List.map_cons, List.map_nil, List.replicate, List.cons_append, List.nil_append, List.append_nil, outsOf, wipeE, backE, ownIx, putOuts, Option.toList, It.lk, Es.lk, items_l, items_t, slR_e, sl_t, sl_l, if_true, if_false, Bool.false_eq_true, Bool.true_and, Bool.and_true, Bool.not_true, Bool.not_false, Option.map_some, decide_true, decide_false, q_tup, q_lst, p_add, p_sub, p_mul, p_mod, p_div, p_pow18, p_lt, p_le, p_gt, p_ge, p_eq, p_ne, p_ixL, p_ixT, p_neg, p_lenL, p_lenT, p_int, p_intB, p_abs, p_min, p_max, p_tupL, p_tupT, p_listL, p_listT, p_dic]
      refine wp_app (ds := rows.map .tup) (by rw [List.length_map]; omega) rfl ?_
      simp only [wp_ok, wp_ex, wp_bind, bnd_ok, bnd_ex, bl_bind, boolR_b, cond_t, cond_f, e_cst, e_var, varR_d, someR_s, e_prim, e_sl, e_slv, e_and, e_or, e_one, e_not, e_tru, e_ife, e_chain, e_call, e_lc, e_pop, s_nil, s_cons, o_no, o_yes, intR_i, pt_no, pt_yes, es_nil, es_val, es_vw, a_nil, a_val, a_vw, it_seq, it_rng, it_enum, opd_n, opd_s, t_set, t_unp, t_par, t_setIx, ownR_l, valR_d, t_aug, t_exp, t_app, frzR_s, t_frz, setS_lt, t_ife, t_ret, t_mov, t_retN, t_brk, t_cnt, t_pass, t_rais, t_tr, wp_try, h_nil, h_cons, then_nx, then_rt, then_bk, then_ct, b_nil, b_cons, after_nx, after_ct, after_bk, after_rt, after_no, after_so, fin_qn, fin_qr, so_vw, so_cst, so_var, so_glob, so_prim, so_sl, so_and, so_or, so_not, so_ife, so_one, so_tru, so_chain, so_call, so_lc, so_pop, snap_d, snap_l, Option.isSome_some, List.getD_cons_zero, List.getD_cons_succ, List.set_cons_zero, List.set_cons_succ, List.length_cons, List.length_nil, Nat.reduceAdd, Nat.reduceSub, Nat.reduceLT, Nat.reduceLeDiff, List.map_cons, List.map_nil, List.replicate, List.cons_append, List.nil_append, List.append_nil, outsOf, wipeE, backE, ownIx, putOuts, Option.toList, It.lk, Es.lk, items_l, items_t, slR_e, sl_t, sl_l, if_true, if_false, Bool.false_eq_true, Bool.true_and, Bool.and_true, Bool.not_true, Bool.not_false, Option.map_some, decide_true, decide_false, q_tup, q_lst, p_add, p_sub, p_mul, p_mod, p_div, p_pow18, p_lt, p_le, p_gt, p_ge, p_eq, p_ne, p_ixL, p_ixT, p_neg, p_lenL, p_lenT, p_int, p_intB, p_abs, p_min, p_max, p_tupL, p_tupT, p_listL, p_listT, p_dic]
      refine ⟨d3, rows ++ [its], _, _, _, h3, ?_, fun r hr => ?_, by rw [List.map_append, List.map_singleton]⟩
      · rw [List.map_append, hl, List.map_singleton, hj, List.take_add_one, hm0]; rfl
      · rcases List.mem_append.mp hr with q | q
        · exact hp r q
        · rw [List.mem_singleton.mp q]; exact hp3
    · rintro j d env3 hd ⟨d3, its, w, h3, hj, hp3, rfl⟩
      obtain ⟨hjn, rfl⟩ := rng_at hd
      rw [turn_n _ _ _ _ _ _ (by show 5 < 6; decide)]
      simp only [b__law_holding_0, p_pow40, wp_ok, wp_ex, wp_bind, bnd_ok, bnd_ex, bl_bind, boolR_b, cond_t, cond_f, e_cst, e_var, varR_d, someR_s, e_prim, e_sl, e_slv, e_and, e_or, e_one, e_not, e_tru, e_ife, e_chain, e_call, e_lc, e_pop, s_nil, s_cons, o_no, o_yes, intR_i, pt_no, pt_yes, es_nil, es_val, es_vw, a_nil, a_val, a_vw, it_seq, it_rng, it_enum, opd_n, opd_s, t_set, t_unp, t_par, t_setIx, ownR_l, valR_d, t_aug, t_exp, t_app, frzR_s, t_frz, setS_lt, t_ife, t_ret, t_mov, t_retN, t_brk, t_cnt, t_pass, t_rais, t_tr, wp_try, h_nil, h_cons, then_nx, then_rt, then_bk, then_ct, b_nil, b_cons, after_nx, after_ct, after_bk, after_rt, after_no, after_so, fin_qn, fin_qr, so_vw, so_cst, so_var, so_glob, so_prim, so_sl, so_and, so_or, so_not, so_ife, so_one, so_tru, so_chain, so_call, so_lc, so_pop, snap_d, snap_l, Option.isSome_some, List.getD_cons_zero, List.getD_cons_succ, List.set_cons_zero, List.set_cons_succ, List.length_cons, List.length_nil, Nat.reduceAdd, Nat.reduceSub, Nat.reduceLT, Nat.reduceLeDiff, List.map_cons, List.map_nil, List.replicate, List.cons_append, List.nil_append, List.append_nil, outsOf, wipeE, backE, ownIx, putOuts, Option.toList, It.lk, Es.lk, items_l, items_t, slR_e, sl_t, sl_l, if_true, if_false, Bool.false_eq_true, Bool.true_and, Bool.and_true, Bool.not_true, Bool.not_false, Option.map_some, decide_true, decide_false, q_tup, q_lst, p_add, p_sub, p_mul, p_mod, p_div, p_pow18, p_lt, p_le, p_gt, p_ge, p_eq, p_ne, p_ixL, p_ixT, p_neg, p_lenL, p_lenT, p_int, p_intB, p_abs, p_min, p_max, p_tupL, p_tupT, p_listL, p_listT, p_dic]
      refine w_draw (n := 10) h3 (by decide) (by decide) fun r d4 hr h4 => ?_
      obtain ⟨x, hx, ex⟩ := pool_at hr
      have ex' : L2.atI [D.non, D.str "x", D.str "y", D.str "zz", D.str "", D.int 0, D.int 1, D.int (-5), D.int big40, D.str "X 1"] (r : Int) = some x := ex
      simp only [ex', wp_ok, wp_ex, wp_bind, bnd_ok, bnd_ex, bl_bind, boolR_b, cond_t, cond_f, e_cst, e_var, varR_d, someR_s, e_prim, e_sl, e_slv, e_and, e_or, e_one, e_not, e_tru, e_ife, e_chain, e_call, e_lc, e_pop, s_nil, s_cons, o_no, o_yes, intR_i, pt_no, pt_yes, es_nil, es_val, es_vw, a_nil, a_val, a_vw, it_seq, it_rng, it_enum, opd_n, opd_s, t_set, t_unp, t_par, t_setIx, ownR_l, valR_d, t_aug, t_exp, t_app, frzR_s, t_frz, setS_lt, t_ife, t_ret, t_mov, t_retN, t_brk, t_cnt, t_pass, t_rais, t_tr, wp_try, h_nil, h_cons, then_nx, then_rt, then_bk, then_ct, b_nil, b_cons, after_nx, after_ct, after_bk, after_rt, after_no, after_so, fin_qn, fin_qr, so_vw, so_cst, so_var, so_glob, so_prim, so_sl, so_and, so_or, so_not, so_ife, so_one, so_tru, so_chain, so_call, so_lc, so_pop, snap_d, snap_l, Option.isSome_some, List.getD_cons_zero, List.getD_cons_succ, List.set_cons_zero, List.set_cons_succ, List.length_cons, List.length_nil, Nat.reduceAdd, Nat.reduceSub, Nat.reduceLT, Nat.reduceLeDiff, List.map_cons, List.map_nil, List.replicate, List.cons_append, List.nil_append, List.append_nil, outsOf, wipeE, backE, ownIx, putOuts, Option.toList, It.lk, Es.lk, items_l, items_t, slR_e, sl_t, sl_l, if_true, if_false, Bool.false_eq_true, Bool.true_and, Bool.and_true, Bool.not_true, Bool.not_false, Option.map_some, decide_true, decide_false, q_tup, q_lst, p_add, p_sub, p_mul, p_mod, p_div, p_pow18, p_lt, p_le, p_gt, p_ge, p_eq, p_ne, p_ixL, p_ixT, p_neg, p_lenL, p_lenT, p_int, p_intB, p_abs, p_min, p_max, p_tupL, p_tupT, p_listL, p_listT, p_dic]
      refine wp_app (ds := its) (by omega) rfl ?_
      simp only [wp_ok, wp_ex, wp_bind, bnd_ok, bnd_ex, bl_bind, boolR_b, cond_t, cond_f, e_cst, e_var, varR_d, someR_s, e_prim, e_sl, e_slv, e_and, e_or, e_one, e_not, e_tru, e_ife, e_chain, e_call, e_lc, e_pop, s_nil, s_cons, o_no, o_yes, intR_i, pt_no, pt_yes, es_nil, es_val, es_vw, a_nil, a_val, a_vw, it_seq, it_rng, it_enum, opd_n, opd_s, t_set, t_unp, t_par, t_setIx, ownR_l, valR_d, t_aug, t_exp, t_app, frzR_s, t_frz, setS_lt, t_ife, t_ret, t_mov, t_retN, t_brk, t_cnt, t_pass, t_rais, t_tr, wp_try, h_nil, h_cons, then_nx, then_rt, then_bk, then_ct, b_nil, b_cons, after_nx, after_ct, after_bk, after_rt, after_no, after_so, fin_qn, fin_qr, so_vw, so_cst, so_var, so_glob, so_prim, so_sl, so_and, so_or, so_not, so_ife, so_one, so_tru, so_chain, so_call, so_lc, so_pop, snap_d, snap_l, Option.isSome_some, List.getD_cons_zero, List.getD_cons_succ, List.set_cons_zero, List.set_cons_succ, List.length_cons, List.length_nil, Nat.reduceAdd, Nat.reduceSub, Nat.reduceLT, Nat.reduceLeDiff, List.map_cons, List.map_nil, List.replicate, List.cons_append, List.nil_append, List.append_nil, outsOf, wipeE, backE, ownIx, putOuts, Option.toList, It.lk, Es.lk, items_l, items_t, slR_e, sl_t, sl_l, if_true, if_false, Bool.false_eq_true, Bool.true_and, Bool.and_true, Bool.not_true, Bool.not_false, Option.map_some, decide_true, decide_false, q_tup, q_lst, p_add, p_sub, p_mul, p_mod, p_div, p_pow18, p_lt, p_le, p_gt, p_ge, p_eq, p_ne, p_ixL, p_ixT, p_neg, p_lenL, p_lenT, p_int, p_intB, p_abs, p_min, p_max, p_tupL, p_tupT, p_listL, p_listT, p_dic]
      refine ⟨d4, its ++ [x], _, h4, by rw [List.length_append, List.length_singleton, hj], fun y hy => ?_, rfl⟩
      rcases List.mem_append.mp hy with q | q
      · exact hp3 y q
      · rw [List.mem_singleton.mp q]; exact pool_ok hx
end W

set_option maxHeartbeats 8000000
namespace W
open AM PySem
theorem is11 : P.isa 1 1 = true := by rfl
theorem is21 : P.isa 2 1 = false := by rfl
theorem is22 : P.isa 2 2 = true := by rfl
theorem is31 : P.isa 3 1 = false := by rfl
theorem is33 : P.isa 3 3 = true := by rfl
theorem put_bad (k : Nat) {h b : D} (hk : holdK h = true) (hb : holdB h = false) : P.call (k + 5) 17 [.d h, .d b] = .ok (.d (.str "holding")) [] := by
  refine wp_eq (wp_def (fn := c__law_put_told) rfl rfl rfl ?_)
  simp only [c__law_put_told, wp_ok, wp_ex, wp_bind, bnd_ok, bnd_ex, bl_bind, boolR_b, cond_t, cond_f, e_cst, e_var, varR_d, someR_s, e_prim, e_sl, e_slv, e_and, e_or, e_one, e_not, e_tru, e_ife, e_chain, e_call, e_lc, e_pop, s_nil, s_cons, o_no, o_yes, intR_i, pt_no, pt_yes, es_nil, es_val, es_vw, a_nil, a_val, a_vw, it_seq, it_rng, it_enum, opd_n, opd_s, t_set, t_unp, t_par, t_setIx, ownR_l, valR_d, t_aug, t_exp, t_app, frzR_s, t_frz, setS_lt, t_ife, t_ret, t_mov, t_retN, t_brk, t_cnt, t_pass, t_rais, t_tr, wp_try, h_nil, h_cons, then_nx, then_rt, then_bk, then_ct, b_nil, b_cons, after_nx, after_ct, after_bk, after_rt, after_no, after_so, fin_qn, fin_qr, so_vw, so_cst, so_var, so_glob, so_prim, so_sl, so_and, so_or, so_not, so_ife, so_one, so_tru, so_chain, so_call, so_lc, so_pop, snap_d, snap_l, Option.isSome_some, List.getD_cons_zero, List.getD_cons_succ, List.set_cons_zero, List.set_cons_succ, List.length_cons, List.length_nil, Nat.reduceAdd, Nat.reduceSub, Nat.reduceLT, Nat.reduceLeDiff, List.map_cons, List.map_nil, List.replicate, List.cons_append, List.nil_append, List.append_nil, outsOf, wipeE, backE, ownIx, putOuts, Option.toList, It.lk, Es.lk, items_l, items_t, slR_e, sl_t, sl_l, if_true, if_false, Bool.false_eq_true, Bool.true_and, Bool.and_true, Bool.not_true, Bool.not_false, Option.map_some, decide_true, decide_false, q_tup, q_lst, p_add, p_sub, p_mul, p_mod, p_div, p_pow18, p_lt, p_le, p_gt, p_ge, p_eq, p_ne, p_ixL, p_ixT, p_neg, p_lenL, p_lenT, p_int, p_intB, p_abs, p_min, p_max, p_tupL, p_tupT, p_listL, p_listT, p_dic]
  refine wp_run (fn := c_put) rfl rfl rfl rfl ?_
  simp only [c_put, wp_ok, wp_ex, wp_bind, bnd_ok, bnd_ex, bl_bind, boolR_b, cond_t, cond_f, e_cst, e_var, varR_d, someR_s, e_prim, e_sl, e_slv, e_and, e_or, e_one, e_not, e_tru, e_ife, e_chain, e_call, e_lc, e_pop, s_nil, s_cons, o_no, o_yes, intR_i, pt_no, pt_yes, es_nil, es_val, es_vw, a_nil, a_val, a_vw, it_seq, it_rng, it_enum, opd_n, opd_s, t_set, t_unp, t_par, t_setIx, ownR_l, valR_d, t_aug, t_exp, t_app, frzR_s, t_frz, setS_lt, t_ife, t_ret, t_mov, t_retN, t_brk, t_cnt, t_pass, t_rais, t_tr, wp_try, h_nil, h_cons, then_nx, then_rt, then_bk, then_ct, b_nil, b_cons, after_nx, after_ct, after_bk, after_rt, after_no, after_so, fin_qn, fin_qr, so_vw, so_cst, so_var, so_glob, so_prim, so_sl, so_and, so_or, so_not, so_ife, so_one, so_tru, so_chain, so_call, so_lc, so_pop, snap_d, snap_l, Option.isSome_some, List.getD_cons_zero, List.getD_cons_succ, List.set_cons_zero, List.set_cons_succ, List.length_cons, List.length_nil, Nat.reduceAdd, Nat.reduceSub, Nat.reduceLT, Nat.reduceLeDiff, List.map_cons, List.map_nil, List.replicate, List.cons_append, List.nil_append, List.append_nil, outsOf, wipeE, backE, ownIx, putOuts, Option.toList, It.lk, Es.lk, items_l, items_t, slR_e, sl_t, sl_l, if_true, if_false, Bool.false_eq_true, Bool.true_and, Bool.and_true, Bool.not_true, Bool.not_false, Option.map_some, decide_true, decide_false, q_tup, q_lst, p_add, p_sub, p_mul, p_mod, p_div, p_pow18, p_lt, p_le, p_gt, p_ge, p_eq, p_ne, p_ixL, p_ixT, p_neg, p_lenL, p_lenT, p_int, p_intB, p_abs, p_min, p_max, p_tupL, p_tupT, p_listL, p_listT, p_dic]
  refine wp_pure (is_holding_ok k hk) rfl rfl ?_
  simp only [hb, is11, wp_ok, wp_ex, wp_bind, bnd_ok, bnd_ex, bl_bind, boolR_b, cond_t, cond_f, e_cst, e_var, varR_d, someR_s, e_prim, e_sl, e_slv, e_and, e_or, e_one, e_not, e_tru, e_ife, e_chain, e_call, e_lc, e_pop, s_nil, s_cons, o_no, o_yes, intR_i, pt_no, pt_yes, es_nil, es_val, es_vw, a_nil, a_val, a_vw, it_seq, it_rng, it_enum, opd_n, opd_s, t_set, t_unp, t_par, t_setIx, ownR_l, valR_d, t_aug, t_exp, t_app, frzR_s, t_frz, setS_lt, t_ife, t_ret, t_mov, t_retN, t_brk, t_cnt, t_pass, t_rais, t_tr, wp_try, h_nil, h_cons, then_nx, then_rt, then_bk, then_ct, b_nil, b_cons, after_nx, after_ct, after_bk, after_rt, after_no, after_so, fin_qn, fin_qr, so_vw, so_cst, so_var, so_glob, so_prim, so_sl, so_and, so_or, so_not, so_ife, so_one, so_tru, so_chain, so_call, so_lc, so_pop, snap_d, snap_l, Option.isSome_some, List.getD_cons_zero, List.getD_cons_succ, List.set_cons_zero, List.set_cons_succ, List.length_cons, List.length_nil, Nat.reduceAdd, Nat.reduceSub, Nat.reduceLT, Nat.reduceLeDiff, List.map_cons, List.map_nil, List.replicate, List.cons_append, List.nil_append, List.append_nil, outsOf, wipeE, backE, ownIx, putOuts, Option.toList, It.lk, Es.lk, items_l, items_t, slR_e, sl_t, sl_l, if_true, if_false, Bool.false_eq_true, Bool.true_and, Bool.and_true, Bool.not_true, Bool.not_false, Option.map_some, decide_true, decide_false, q_tup, q_lst, p_add, p_sub, p_mul, p_mod, p_div, p_pow18, p_lt, p_le, p_gt, p_ge, p_eq, p_ne, p_ixL, p_ixT, p_neg, p_lenL, p_lenT, p_int, p_intB, p_abs, p_min, p_max, p_tupL, p_tupT, p_listL, p_listT, p_dic]
  constructor <;> first | trivial | rfl
theorem carried_bad (k : Nat) {h b : D} (hk : holdK h = true) (hb : holdB h = false) : P.call (k + 5) 18 [.d h, .d b] = .ok (.d (.str "holding")) [] := by
  refine wp_eq (wp_def (fn := c__law_carried_told) rfl rfl rfl ?_)
  simp only [c__law_carried_told, wp_ok, wp_ex, wp_bind, bnd_ok, bnd_ex, bl_bind, boolR_b, cond_t, cond_f, e_cst, e_var, varR_d, someR_s, e_prim, e_sl, e_slv, e_and, e_or, e_one, e_not, e_tru, e_ife, e_chain, e_call, e_lc, e_pop, s_nil, s_cons, o_no, o_yes, intR_i, pt_no, pt_yes, es_nil, es_val, es_vw, a_nil, a_val, a_vw, it_seq, it_rng, it_enum, opd_n, opd_s, t_set, t_unp, t_par, t_setIx, ownR_l, valR_d, t_aug, t_exp, t_app, frzR_s, t_frz, setS_lt, t_ife, t_ret, t_mov, t_retN, t_brk, t_cnt, t_pass, t_rais, t_tr, wp_try, h_nil, h_cons, then_nx, then_rt, then_bk, then_ct, b_nil, b_cons, after_nx, after_ct, after_bk, after_rt, after_no, after_so, fin_qn, fin_qr, so_vw, so_cst, so_var, so_glob, so_prim, so_sl, so_and, so_or, so_not, so_ife, so_one, so_tru, so_chain, so_call, so_lc, so_pop, snap_d, snap_l, Option.isSome_some, List.getD_cons_zero, List.getD_cons_succ, List.set_cons_zero, List.set_cons_succ, List.length_cons, List.length_nil, Nat.reduceAdd, Nat.reduceSub, Nat.reduceLT, Nat.reduceLeDiff, List.map_cons, List.map_nil, List.replicate, List.cons_append, List.nil_append, List.append_nil, outsOf, wipeE, backE, ownIx, putOuts, Option.toList, It.lk, Es.lk, items_l, items_t, slR_e, sl_t, sl_l, if_true, if_false, Bool.false_eq_true, Bool.true_and, Bool.and_true, Bool.not_true, Bool.not_false, Option.map_some, decide_true, decide_false, q_tup, q_lst, p_add, p_sub, p_mul, p_mod, p_div, p_pow18, p_lt, p_le, p_gt, p_ge, p_eq, p_ne, p_ixL, p_ixT, p_neg, p_lenL, p_lenT, p_int, p_intB, p_abs, p_min, p_max, p_tupL, p_tupT, p_listL, p_listT, p_dic]
  refine wp_run (fn := c_carried) rfl rfl rfl rfl ?_
  simp only [c_carried, wp_ok, wp_ex, wp_bind, bnd_ok, bnd_ex, bl_bind, boolR_b, cond_t, cond_f, e_cst, e_var, varR_d, someR_s, e_prim, e_sl, e_slv, e_and, e_or, e_one, e_not, e_tru, e_ife, e_chain, e_call, e_lc, e_pop, s_nil, s_cons, o_no, o_yes, intR_i, pt_no, pt_yes, es_nil, es_val, es_vw, a_nil, a_val, a_vw, it_seq, it_rng, it_enum, opd_n, opd_s, t_set, t_unp, t_par, t_setIx, ownR_l, valR_d, t_aug, t_exp, t_app, frzR_s, t_frz, setS_lt, t_ife, t_ret, t_mov, t_retN, t_brk, t_cnt, t_pass, t_rais, t_tr, wp_try, h_nil, h_cons, then_nx, then_rt, then_bk, then_ct, b_nil, b_cons, after_nx, after_ct, after_bk, after_rt, after_no, after_so, fin_qn, fin_qr, so_vw, so_cst, so_var, so_glob, so_prim, so_sl, so_and, so_or, so_not, so_ife, so_one, so_tru, so_chain, so_call, so_lc, so_pop, snap_d, snap_l, Option.isSome_some, List.getD_cons_zero, List.getD_cons_succ, List.set_cons_zero, List.set_cons_succ, List.length_cons, List.length_nil, Nat.reduceAdd, Nat.reduceSub, Nat.reduceLT, Nat.reduceLeDiff, List.map_cons, List.map_nil, List.replicate, List.cons_append, List.nil_append, List.append_nil, outsOf, wipeE, backE, ownIx, putOuts, Option.toList, It.lk, Es.lk, items_l, items_t, slR_e, sl_t, sl_l, if_true, if_false, Bool.false_eq_true, Bool.true_and, Bool.and_true, Bool.not_true, Bool.not_false, Option.map_some, decide_true, decide_false, q_tup, q_lst, p_add, p_sub, p_mul, p_mod, p_div, p_pow18, p_lt, p_le, p_gt, p_ge, p_eq, p_ne, p_ixL, p_ixT, p_neg, p_lenL, p_lenT, p_int, p_intB, p_abs, p_min, p_max, p_tupL, p_tupT, p_listL, p_listT, p_dic]
  refine wp_pure (is_holding_ok k hk) rfl rfl ?_
  simp only [hb, is11, wp_ok, wp_ex, wp_bind, bnd_ok, bnd_ex, bl_bind, boolR_b, cond_t, cond_f, e_cst, e_var, varR_d, someR_s, e_prim, e_sl, e_slv, e_and, e_or, e_one, e_not, e_tru, e_ife, e_chain, e_call, e_lc, e_pop, s_nil, s_cons, o_no, o_yes, intR_i, pt_no, pt_yes, es_nil, es_val, es_vw, a_nil, a_val, a_vw, it_seq, it_rng, it_enum, opd_n, opd_s, t_set, t_unp, t_par, t_setIx, ownR_l, valR_d, t_aug, t_exp, t_app, frzR_s, t_frz, setS_lt, t_ife, t_ret, t_mov, t_retN, t_brk, t_cnt, t_pass, t_rais, t_tr, wp_try, h_nil, h_cons, then_nx, then_rt, then_bk, then_ct, b_nil, b_cons, after_nx, after_ct, after_bk, after_rt, after_no, after_so, fin_qn, fin_qr, so_vw, so_cst, so_var, so_glob, so_prim, so_sl, so_and, so_or, so_not, so_ife, so_one, so_tru, so_chain, so_call, so_lc, so_pop, snap_d, snap_l, Option.isSome_some, List.getD_cons_zero, List.getD_cons_succ, List.set_cons_zero, List.set_cons_succ, List.length_cons, List.length_nil, Nat.reduceAdd, Nat.reduceSub, Nat.reduceLT, Nat.reduceLeDiff, List.map_cons, List.map_nil, List.replicate, List.cons_append, List.nil_append, List.append_nil, outsOf, wipeE, backE, ownIx, putOuts, Option.toList, It.lk, Es.lk, items_l, items_t, slR_e, sl_t, sl_l, if_true, if_false, Bool.false_eq_true, Bool.true_and, Bool.and_true, Bool.not_true, Bool.not_false, Option.map_some, decide_true, decide_false, q_tup, q_lst, p_add, p_sub, p_mul, p_mod, p_div, p_pow18, p_lt, p_le, p_gt, p_ge, p_eq, p_ne, p_ixL, p_ixT, p_neg, p_lenL, p_lenT, p_int, p_intB, p_abs, p_min, p_max, p_tupL, p_tupT, p_listL, p_listT, p_dic]
  constructor <;> first | trivial | rfl
theorem put_belt (k : Nat) {ls : List Nat} {rows : List (List D)} (g : GR ls rows) {b : D} (hk : known b = true) (hb : idxB b (ls.length : Nat) = false) : P.call (k + 5) 17 [.d (hold rows), .d b] = .ok (.d (.str "belt")) [] := by
  refine wp_eq (wp_def (fn := c__law_put_told) rfl rfl rfl ?_)
  simp only [c__law_put_told, wp_ok, wp_ex, wp_bind, bnd_ok, bnd_ex, bl_bind, boolR_b, cond_t, cond_f, e_cst, e_var, varR_d, someR_s, e_prim, e_sl, e_slv, e_and, e_or, e_one, e_not, e_tru, e_ife, e_chain, e_call, e_lc, e_pop, s_nil, s_cons, o_no, o_yes, intR_i, pt_no, pt_yes, es_nil, es_val, es_vw, a_nil, a_val, a_vw, it_seq, it_rng, it_enum, opd_n, opd_s, t_set, t_unp, t_par, t_setIx, ownR_l, valR_d, t_aug, t_exp, t_app, frzR_s, t_frz, setS_lt, t_ife, t_ret, t_mov, t_retN, t_brk, t_cnt, t_pass, t_rais, t_tr, wp_try, h_nil, h_cons, then_nx, then_rt, then_bk, then_ct, b_nil, b_cons, after_nx, after_ct, after_bk, after_rt, after_no, after_so, fin_qn, fin_qr, so_vw, so_cst, so_var, so_glob, so_prim, so_sl, so_and, so_or, so_not, so_ife, so_one, so_tru, so_chain, so_call, so_lc, so_pop, snap_d, snap_l, Option.isSome_some, List.getD_cons_zero, List.getD_cons_succ, List.set_cons_zero, List.set_cons_succ, List.length_cons, List.length_nil, Nat.reduceAdd, Nat.reduceSub, Nat.reduceLT, Nat.reduceLeDiff, List.map_cons, List.map_nil, List.replicate, List.cons_append, List.nil_append, List.append_nil, outsOf, wipeE, backE, ownIx, putOuts, Option.toList, It.lk, Es.lk, items_l, items_t, slR_e, sl_t, sl_l, if_true, if_false, Bool.false_eq_true, Bool.true_and, Bool.and_true, Bool.not_true, Bool.not_false, Option.map_some, decide_true, decide_false, q_tup, q_lst, p_add, p_sub, p_mul, p_mod, p_div, p_pow18, p_lt, p_le, p_gt, p_ge, p_eq, p_ne, p_ixL, p_ixT, p_neg, p_lenL, p_lenT, p_int, p_intB, p_abs, p_min, p_max, p_tupL, p_tupT, p_listL, p_listT, p_dic]
  refine wp_run (fn := c_put) rfl rfl rfl rfl ?_
  simp only [c_put, wp_ok, wp_ex, wp_bind, bnd_ok, bnd_ex, bl_bind, boolR_b, cond_t, cond_f, e_cst, e_var, varR_d, someR_s, e_prim, e_sl, e_slv, e_and, e_or, e_one, e_not, e_tru, e_ife, e_chain, e_call, e_lc, e_pop, s_nil, s_cons, o_no, o_yes, intR_i, pt_no, pt_yes, es_nil, es_val, es_vw, a_nil, a_val, a_vw, it_seq, it_rng, it_enum, opd_n, opd_s, t_set, t_unp, t_par, t_setIx, ownR_l, valR_d, t_aug, t_exp, t_app, frzR_s, t_frz, setS_lt, t_ife, t_ret, t_mov, t_retN, t_brk, t_cnt, t_pass, t_rais, t_tr, wp_try, h_nil, h_cons, then_nx, then_rt, then_bk, then_ct, b_nil, b_cons, after_nx, after_ct, after_bk, after_rt, after_no, after_so, fin_qn, fin_qr, so_vw, so_cst, so_var, so_glob, so_prim, so_sl, so_and, so_or, so_not, so_ife, so_one, so_tru, so_chain, so_call, so_lc, so_pop, snap_d, snap_l, Option.isSome_some, List.getD_cons_zero, List.getD_cons_succ, List.set_cons_zero, List.set_cons_succ, List.length_cons, List.length_nil, Nat.reduceAdd, Nat.reduceSub, Nat.reduceLT, Nat.reduceLeDiff, List.map_cons, List.map_nil, List.replicate, List.cons_append, List.nil_append, List.append_nil, outsOf, wipeE, backE, ownIx, putOuts, Option.toList, It.lk, Es.lk, items_l, items_t, slR_e, sl_t, sl_l, if_true, if_false, Bool.false_eq_true, Bool.true_and, Bool.and_true, Bool.not_true, Bool.not_false, Option.map_some, decide_true, decide_false, q_tup, q_lst, p_add, p_sub, p_mul, p_mod, p_div, p_pow18, p_lt, p_le, p_gt, p_ge, p_eq, p_ne, p_ixL, p_ixT, p_neg, p_lenL, p_lenT, p_int, p_intB, p_abs, p_min, p_max, p_tupL, p_tupT, p_listL, p_listT, p_dic]
  refine wp_pure (is_holding_ok k g.holdK) rfl rfl ?_
  have hl : primF (.bi .len) [hold rows] = some (.d (.int (ls.length : Nat))) := by
    unfold hold
    rw [p_lenT, List.length_map, g.cnt]
  simp only [g.holdB, hl, wp_ok, wp_ex, wp_bind, bnd_ok, bnd_ex, bl_bind, boolR_b, cond_t, cond_f, e_cst, e_var, varR_d, someR_s, e_prim, e_sl, e_slv, e_and, e_or, e_one, e_not, e_tru, e_ife, e_chain, e_call, e_lc, e_pop, s_nil, s_cons, o_no, o_yes, intR_i, pt_no, pt_yes, es_nil, es_val, es_vw, a_nil, a_val, a_vw, it_seq, it_rng, it_enum, opd_n, opd_s, t_set, t_unp, t_par, t_setIx, ownR_l, valR_d, t_aug, t_exp, t_app, frzR_s, t_frz, setS_lt, t_ife, t_ret, t_mov, t_retN, t_brk, t_cnt, t_pass, t_rais, t_tr, wp_try, h_nil, h_cons, then_nx, then_rt, then_bk, then_ct, b_nil, b_cons, after_nx, after_ct, after_bk, after_rt, after_no, after_so, fin_qn, fin_qr, so_vw, so_cst, so_var, so_glob, so_prim, so_sl, so_and, so_or, so_not, so_ife, so_one, so_tru, so_chain, so_call, so_lc, so_pop, snap_d, snap_l, Option.isSome_some, List.getD_cons_zero, List.getD_cons_succ, List.set_cons_zero, List.set_cons_succ, List.length_cons, List.length_nil, Nat.reduceAdd, Nat.reduceSub, Nat.reduceLT, Nat.reduceLeDiff, List.map_cons, List.map_nil, List.replicate, List.cons_append, List.nil_append, List.append_nil, outsOf, wipeE, backE, ownIx, putOuts, Option.toList, It.lk, Es.lk, items_l, items_t, slR_e, sl_t, sl_l, if_true, if_false, Bool.false_eq_true, Bool.true_and, Bool.and_true, Bool.not_true, Bool.not_false, Option.map_some, decide_true, decide_false, q_tup, q_lst, p_add, p_sub, p_mul, p_mod, p_div, p_pow18, p_lt, p_le, p_gt, p_ge, p_eq, p_ne, p_ixL, p_ixT, p_neg, p_lenL, p_lenT, p_int, p_intB, p_abs, p_min, p_max, p_tupL, p_tupT, p_listL, p_listT, p_dic]
  refine wp_pure (is_index_ok (k + 1) hk) rfl rfl ?_
  simp only [hb, is21, is22, wp_ok, wp_ex, wp_bind, bnd_ok, bnd_ex, bl_bind, boolR_b, cond_t, cond_f, e_cst, e_var, varR_d, someR_s, e_prim, e_sl, e_slv, e_and, e_or, e_one, e_not, e_tru, e_ife, e_chain, e_call, e_lc, e_pop, s_nil, s_cons, o_no, o_yes, intR_i, pt_no, pt_yes, es_nil, es_val, es_vw, a_nil, a_val, a_vw, it_seq, it_rng, it_enum, opd_n, opd_s, t_set, t_unp, t_par, t_setIx, ownR_l, valR_d, t_aug, t_exp, t_app, frzR_s, t_frz, setS_lt, t_ife, t_ret, t_mov, t_retN, t_brk, t_cnt, t_pass, t_rais, t_tr, wp_try, h_nil, h_cons, then_nx, then_rt, then_bk, then_ct, b_nil, b_cons, after_nx, after_ct, after_bk, after_rt, after_no, after_so, fin_qn, fin_qr, so_vw, so_cst, so_var, so_glob, so_prim, so_sl, so_and, so_or, so_not, so_ife, so_one, so_tru, so_chain, so_call, so_lc, so_pop, snap_d, snap_l, Option.isSome_some, List.getD_cons_zero, List.getD_cons_succ, List.set_cons_zero, List.set_cons_succ, List.length_cons, List.length_nil, Nat.reduceAdd, Nat.reduceSub, Nat.reduceLT, Nat.reduceLeDiff, List.map_cons, List.map_nil, List.replicate, List.cons_append, List.nil_append, List.append_nil, outsOf, wipeE, backE, ownIx, putOuts, Option.toList, It.lk, Es.lk, items_l, items_t, slR_e, sl_t, sl_l, if_true, if_false, Bool.false_eq_true, Bool.true_and, Bool.and_true, Bool.not_true, Bool.not_false, Option.map_some, decide_true, decide_false, q_tup, q_lst, p_add, p_sub, p_mul, p_mod, p_div, p_pow18, p_lt, p_le, p_gt, p_ge, p_eq, p_ne, p_ixL, p_ixT, p_neg, p_lenL, p_lenT, p_int, p_intB, p_abs, p_min, p_max, p_tupL, p_tupT, p_listL, p_listT, p_dic]
  constructor <;> first | trivial | rfl
theorem put_let (k : Nat) {ls : List Nat} {rows : List (List D)} (g : GR ls rows) {b : Nat} (hb : b < ls.length) : P.call (k + 5) 17 [.d (hold rows), .d (.int b)] = .ok (.d (.str "let")) [] := by
  refine wp_eq (wp_def (fn := c__law_put_told) rfl rfl rfl ?_)
  simp only [c__law_put_told, wp_ok, wp_ex, wp_bind, bnd_ok, bnd_ex, bl_bind, boolR_b, cond_t, cond_f, e_cst, e_var, varR_d, someR_s, e_prim, e_sl, e_slv, e_and, e_or, e_one, e_not, e_tru, e_ife, e_chain, e_call, e_lc, e_pop, s_nil, s_cons, o_no, o_yes, intR_i, pt_no, pt_yes, es_nil, es_val, es_vw, a_nil, a_val, a_vw, it_seq, it_rng, it_enum, opd_n, opd_s, t_set, t_unp, t_par, t_setIx, ownR_l, valR_d, t_aug, t_exp, t_app, frzR_s, t_frz, setS_lt, t_ife, t_ret, t_mov, t_retN, t_brk, t_cnt, t_pass, t_rais, t_tr, wp_try, h_nil, h_cons, then_nx, then_rt, then_bk, then_ct, b_nil, b_cons, after_nx, after_ct, after_bk, after_rt, after_no, after_so, fin_qn, fin_qr, so_vw, so_cst, so_var, so_glob, so_prim, so_sl, so_and, so_or, so_not, so_ife, so_one, so_tru, so_chain, so_call, so_lc, so_pop, snap_d, snap_l, Option.isSome_some, List.getD_cons_zero, List.getD_cons_succ, List.set_cons_zero, List.set_cons_succ, List.length_cons, List.length_nil, Nat.reduceAdd, Nat.reduceSub, Nat.reduceLT, Nat.reduceLeDiff, List.map_cons, List.map_nil, List.replicate, List.cons_append, List.nil_append, List.append_nil, outsOf, wipeE, backE, ownIx, putOuts, Option.toList, It.lk, Es.lk, items_l, items_t, slR_e, sl_t, sl_l, if_true, if_false, Bool.false_eq_true, Bool.true_and, Bool.and_true, Bool.not_true, Bool.not_false, Option.map_some, decide_true, decide_false, q_tup, q_lst, p_add, p_sub, p_mul, p_mod, p_div, p_pow18, p_lt, p_le, p_gt, p_ge, p_eq, p_ne, p_ixL, p_ixT, p_neg, p_lenL, p_lenT, p_int, p_intB, p_abs, p_min, p_max, p_tupL, p_tupT, p_listL, p_listT, p_dic]
  refine wp_pure (put_ok k g (x := .str "x") (by rw [g.cnt]; exact hb)) rfl rfl ?_
  simp only [wp_ok, wp_ex, wp_bind, bnd_ok, bnd_ex, bl_bind, boolR_b, cond_t, cond_f, e_cst, e_var, varR_d, someR_s, e_prim, e_sl, e_slv, e_and, e_or, e_one, e_not, e_tru, e_ife, e_chain, e_call, e_lc, e_pop, s_nil, s_cons, o_no, o_yes, intR_i, pt_no, pt_yes, es_nil, es_val, es_vw, a_nil, a_val, a_vw, it_seq, it_rng, it_enum, opd_n, opd_s, t_set, t_unp, t_par, t_setIx, ownR_l, valR_d, t_aug, t_exp, t_app, frzR_s, t_frz, setS_lt, t_ife, t_ret, t_mov, t_retN, t_brk, t_cnt, t_pass, t_rais, t_tr, wp_try, h_nil, h_cons, then_nx, then_rt, then_bk, then_ct, b_nil, b_cons, after_nx, after_ct, after_bk, after_rt, after_no, after_so, fin_qn, fin_qr, so_vw, so_cst, so_var, so_glob, so_prim, so_sl, so_and, so_or, so_not, so_ife, so_one, so_tru, so_chain, so_call, so_lc, so_pop, snap_d, snap_l, Option.isSome_some, List.getD_cons_zero, List.getD_cons_succ, List.set_cons_zero, List.set_cons_succ, List.length_cons, List.length_nil, Nat.reduceAdd, Nat.reduceSub, Nat.reduceLT, Nat.reduceLeDiff, List.map_cons, List.map_nil, List.replicate, List.cons_append, List.nil_append, List.append_nil, outsOf, wipeE, backE, ownIx, putOuts, Option.toList, It.lk, Es.lk, items_l, items_t, slR_e, sl_t, sl_l, if_true, if_false, Bool.false_eq_true, Bool.true_and, Bool.and_true, Bool.not_true, Bool.not_false, Option.map_some, decide_true, decide_false, q_tup, q_lst, p_add, p_sub, p_mul, p_mod, p_div, p_pow18, p_lt, p_le, p_gt, p_ge, p_eq, p_ne, p_ixL, p_ixT, p_neg, p_lenL, p_lenT, p_int, p_intB, p_abs, p_min, p_max, p_tupL, p_tupT, p_listL, p_listT, p_dic]
  constructor <;> first | trivial | rfl
theorem carried_let (k : Nat) {ls : List Nat} {rows : List (List D)} (g : GR ls rows) {cs : List Cy} (hc : ∀ c ∈ cs, c.ok ls) (hl : cs.length ≤ 1000) {d : D} (hd : d = .lst (cs.map cD) ∨ d = .tup (cs.map cD)) : P.call (k + 7) 18 [.d (hold rows), .d d] = .ok (.d (.str "let")) [] := by
  refine wp_eq (wp_def (fn := c__law_carried_told) rfl rfl rfl ?_)
  simp only [c__law_carried_told, wp_ok, wp_ex, wp_bind, bnd_ok, bnd_ex, bl_bind, boolR_b, cond_t, cond_f, e_cst, e_var, varR_d, someR_s, e_prim, e_sl, e_slv, e_and, e_or, e_one, e_not, e_tru, e_ife, e_chain, e_call, e_lc, e_pop, s_nil, s_cons, o_no, o_yes, intR_i, pt_no, pt_yes, es_nil, es_val, es_vw, a_nil, a_val, a_vw, it_seq, it_rng, it_enum, opd_n, opd_s, t_set, t_unp, t_par, t_setIx, ownR_l, valR_d, t_aug, t_exp, t_app, frzR_s, t_frz, setS_lt, t_ife, t_ret, t_mov, t_retN, t_brk, t_cnt, t_pass, t_rais, t_tr, wp_try, h_nil, h_cons, then_nx, then_rt, then_bk, then_ct, b_nil, b_cons, after_nx, after_ct, after_bk, after_rt, after_no, after_so, fin_qn, fin_qr, so_vw, so_cst, so_var, so_glob, so_prim, so_sl, so_and, so_or, so_not, so_ife, so_one, so_tru, so_chain, so_call, so_lc, so_pop, snap_d, snap_l, Option.isSome_some, List.getD_cons_zero, List.getD_cons_succ, List.set_cons_zero, List.set_cons_succ, List.length_cons, List.length_nil, Nat.reduceAdd, Nat.reduceSub, Nat.reduceLT, Nat.reduceLeDiff, List.map_cons, List.map_nil, List.replicate, List.cons_append, List.nil_append, List.append_nil, outsOf, wipeE, backE, ownIx, putOuts, Option.toList, It.lk, Es.lk, items_l, items_t, slR_e, sl_t, sl_l, if_true, if_false, Bool.false_eq_true, Bool.true_and, Bool.and_true, Bool.not_true, Bool.not_false, Option.map_some, decide_true, decide_false, q_tup, q_lst, p_add, p_sub, p_mul, p_mod, p_div, p_pow18, p_lt, p_le, p_gt, p_ge, p_eq, p_ne, p_ixL, p_ixT, p_neg, p_lenL, p_lenT, p_int, p_intB, p_abs, p_min, p_max, p_tupL, p_tupT, p_listL, p_listT, p_dic]
  refine wp_pure (carried_ok k g hc hl hd) rfl rfl ?_
  simp only [wp_ok, wp_ex, wp_bind, bnd_ok, bnd_ex, bl_bind, boolR_b, cond_t, cond_f, e_cst, e_var, varR_d, someR_s, e_prim, e_sl, e_slv, e_and, e_or, e_one, e_not, e_tru, e_ife, e_chain, e_call, e_lc, e_pop, s_nil, s_cons, o_no, o_yes, intR_i, pt_no, pt_yes, es_nil, es_val, es_vw, a_nil, a_val, a_vw, it_seq, it_rng, it_enum, opd_n, opd_s, t_set, t_unp, t_par, t_setIx, ownR_l, valR_d, t_aug, t_exp, t_app, frzR_s, t_frz, setS_lt, t_ife, t_ret, t_mov, t_retN, t_brk, t_cnt, t_pass, t_rais, t_tr, wp_try, h_nil, h_cons, then_nx, then_rt, then_bk, then_ct, b_nil, b_cons, after_nx, after_ct, after_bk, after_rt, after_no, after_so, fin_qn, fin_qr, so_vw, so_cst, so_var, so_glob, so_prim, so_sl, so_and, so_or, so_not, so_ife, so_one, so_tru, so_chain, so_call, so_lc, so_pop, snap_d, snap_l, Option.isSome_some, List.getD_cons_zero, List.getD_cons_succ, List.set_cons_zero, List.set_cons_succ, List.length_cons, List.length_nil, Nat.reduceAdd, Nat.reduceSub, Nat.reduceLT, Nat.reduceLeDiff, List.map_cons, List.map_nil, List.replicate, List.cons_append, List.nil_append, List.append_nil, outsOf, wipeE, backE, ownIx, putOuts, Option.toList, It.lk, Es.lk, items_l, items_t, slR_e, sl_t, sl_l, if_true, if_false, Bool.false_eq_true, Bool.true_and, Bool.and_true, Bool.not_true, Bool.not_false, Option.map_some, decide_true, decide_false, q_tup, q_lst, p_add, p_sub, p_mul, p_mod, p_div, p_pow18, p_lt, p_le, p_gt, p_ge, p_eq, p_ne, p_ixL, p_ixT, p_neg, p_lenL, p_lenT, p_int, p_intB, p_abs, p_min, p_max, p_tupL, p_tupT, p_listL, p_listT, p_dic]
  constructor <;> first | trivial | rfl
/-- what is no row of carries -/
def carB (ls : List Int) : D → Bool
  | .lst xs => manyB ls xs
  | .tup xs => manyB ls xs
  | _ => false
def carK (d : D) : Bool := known d && match d with
  | .lst xs => xs.all carryK
  | .tup xs => xs.all carryK
  | _ => true
theorem carried_no (k : Nat) {ls : List Nat} {rows : List (List D)} (g : GR ls rows) {d : D} (hk : carK d = true) (hb : carB (toI ls) d = false) : P.call (k + 7) 18 [.d (hold rows), .d d] = .ok (.d (.str "carries")) [] := by
  have hkn : known d = true := by
    unfold carK at hk
    rw [Bool.and_eq_true] at hk
    exact hk.1
  refine wp_eq (wp_def (fn := c__law_carried_told) rfl rfl rfl ?_)
  simp only [c__law_carried_told, wp_ok, wp_ex, wp_bind, bnd_ok, bnd_ex, bl_bind, boolR_b, cond_t, cond_f, e_cst, e_var, varR_d, someR_s, e_prim, e_sl, e_slv, e_and, e_or, e_one, e_not, e_tru, e_ife, e_chain, e_call, e_lc, e_pop, s_nil, s_cons, o_no, o_yes, intR_i, pt_no, pt_yes, es_nil, es_val, es_vw, a_nil, a_val, a_vw, it_seq, it_rng, it_enum, opd_n, opd_s, t_set, t_unp, t_par, t_setIx, ownR_l, valR_d, t_aug, t_exp, t_app, frzR_s, t_frz, setS_lt, t_ife, t_ret, t_mov, t_retN, t_brk, t_cnt, t_pass, t_rais, t_tr, wp_try, h_nil, h_cons, then_nx, then_rt, then_bk, then_ct, b_nil, b_cons, after_nx, after_ct, after_bk, after_rt, after_no, after_so, fin_qn, fin_qr, so_vw, so_cst, so_var, so_glob, so_prim, so_sl, so_and, so_or, so_not, so_ife, so_one, so_tru, so_chain, so_call, so_lc, so_pop, snap_d, snap_l, Option.isSome_some, List.getD_cons_zero, List.getD_cons_succ, List.set_cons_zero, List.set_cons_succ, List.length_cons, List.length_nil, Nat.reduceAdd, Nat.reduceSub, Nat.reduceLT, Nat.reduceLeDiff, List.map_cons, List.map_nil, List.replicate, List.cons_append, List.nil_append, List.append_nil, outsOf, wipeE, backE, ownIx, putOuts, Option.toList, It.lk, Es.lk, items_l, items_t, slR_e, sl_t, sl_l, if_true, if_false, Bool.false_eq_true, Bool.true_and, Bool.and_true, Bool.not_true, Bool.not_false, Option.map_some, decide_true, decide_false, q_tup, q_lst, p_add, p_sub, p_mul, p_mod, p_div, p_pow18, p_lt, p_le, p_gt, p_ge, p_eq, p_ne, p_ixL, p_ixT, p_neg, p_lenL, p_lenT, p_int, p_intB, p_abs, p_min, p_max, p_tupL, p_tupT, p_listL, p_listT, p_dic]
  refine wp_run (fn := c_carried) rfl rfl rfl rfl ?_
  simp only [c_carried, wp_ok, wp_ex, wp_bind, bnd_ok, bnd_ex, bl_bind, boolR_b, cond_t, cond_f, e_cst, e_var, varR_d, someR_s, e_prim, e_sl, e_slv, e_and, e_or, e_one, e_not, e_tru, e_ife, e_chain, e_call, e_lc, e_pop, s_nil, s_cons, o_no, o_yes, intR_i, pt_no, pt_yes, es_nil, es_val, es_vw, a_nil, a_val, a_vw, it_seq, it_rng, it_enum, opd_n, opd_s, t_set, t_unp, t_par, t_setIx, ownR_l, valR_d, t_aug, t_exp, t_app, frzR_s, t_frz, setS_lt, t_ife, t_ret, t_mov, t_retN, t_brk, t_cnt, t_pass, t_rais, t_tr, wp_try, h_nil, h_cons, then_nx, then_rt, then_bk, then_ct, b_nil, b_cons, after_nx, after_ct, after_bk, after_rt, after_no, after_so, fin_qn, fin_qr, so_vw, so_cst, so_var, so_glob, so_prim, so_sl, so_and, so_or, so_not, so_ife, so_one, so_tru, so_chain, so_call, so_lc, so_pop, snap_d, snap_l, Option.isSome_some, List.getD_cons_zero, List.getD_cons_succ, List.set_cons_zero, List.set_cons_succ, List.length_cons, List.length_nil, Nat.reduceAdd, Nat.reduceSub, Nat.reduceLT, Nat.reduceLeDiff, List.map_cons, List.map_nil, List.replicate, List.cons_append, List.nil_append, List.append_nil, outsOf, wipeE, backE, ownIx, putOuts, Option.toList, It.lk, Es.lk, items_l, items_t, slR_e, sl_t, sl_l, if_true, if_false, Bool.false_eq_true, Bool.true_and, Bool.and_true, Bool.not_true, Bool.not_false, Option.map_some, decide_true, decide_false, q_tup, q_lst, p_add, p_sub, p_mul, p_mod, p_div, p_pow18, p_lt, p_le, p_gt, p_ge, p_eq, p_ne, p_ixL, p_ixT, p_neg, p_lenL, p_lenT, p_int, p_intB, p_abs, p_min, p_max, p_tupL, p_tupT, p_listL, p_listT, p_dic]
  refine wp_pure (is_holding_ok (k + 2) g.holdK) rfl rfl ?_
  have ih : items (hold rows) = some (rows.map D.tup) := rfl
  simp only [g.holdB, ih, wp_ok, wp_ex, wp_bind, bnd_ok, bnd_ex, bl_bind, boolR_b, cond_t, cond_f, e_cst, e_var, varR_d, someR_s, e_prim, e_sl, e_slv, e_and, e_or, e_one, e_not, e_tru, e_ife, e_chain, e_call, e_lc, e_pop, s_nil, s_cons, o_no, o_yes, intR_i, pt_no, pt_yes, es_nil, es_val, es_vw, a_nil, a_val, a_vw, it_seq, it_rng, it_enum, opd_n, opd_s, t_set, t_unp, t_par, t_setIx, ownR_l, valR_d, t_aug, t_exp, t_app, frzR_s, t_frz, setS_lt, t_ife, t_ret, t_mov, t_retN, t_brk, t_cnt, t_pass, t_rais, t_tr, wp_try, h_nil, h_cons, then_nx, then_rt, then_bk, then_ct, b_nil, b_cons, after_nx, after_ct, after_bk, after_rt, after_no, after_so, fin_qn, fin_qr, so_vw, so_cst, so_var, so_glob, so_prim, so_sl, so_and, so_or, so_not, so_ife, so_one, so_tru, so_chain, so_call, so_lc, so_pop, snap_d, snap_l, Option.isSome_some, List.getD_cons_zero, List.getD_cons_succ, List.set_cons_zero, List.set_cons_succ, List.length_cons, List.length_nil, Nat.reduceAdd, Nat.reduceSub, Nat.reduceLT, Nat.reduceLeDiff, List.map_cons, List.map_nil, List.replicate, List.cons_append, List.nil_append, List.append_nil, outsOf, wipeE, backE, ownIx, putOuts, Option.toList, It.lk, Es.lk, items_l, items_t, slR_e, sl_t, sl_l, if_true, if_false, Bool.false_eq_true, Bool.true_and, Bool.and_true, Bool.not_true, Bool.not_false, Option.map_some, decide_true, decide_false, q_tup, q_lst, p_add, p_sub, p_mul, p_mod, p_div, p_pow18, p_lt, p_le, p_gt, p_ge, p_eq, p_ne, p_ixL, p_ixT, p_neg, p_lenL, p_lenT, p_int, p_intB, p_abs, p_min, p_max, p_tupL, p_tupT, p_listL, p_listT, p_dic]
  refine wp_map (fun d => D.int (((tupI d).length : Nat) : Int)) (by rw [List.length_map]; have := g.le6; omega) ?_ ?_
  · have gl : P.glob "list" = some (.ty "list") := g_list
    have gt : P.glob "tuple" = some (.ty "tuple") := g_tuple
    rw [lens_eq g]
    simp only [e_globP gl, e_globP gt, i_lt hkn, wp_ok, wp_ex, wp_bind, bnd_ok, bnd_ex, bl_bind, boolR_b, cond_t, cond_f, e_cst, e_var, varR_d, someR_s, e_prim, e_sl, e_slv, e_and, e_or, e_one, e_not, e_tru, e_ife, e_chain, e_call, e_lc, e_pop, s_nil, s_cons, o_no, o_yes, intR_i, pt_no, pt_yes, es_nil, es_val, es_vw, a_nil, a_val, a_vw, it_seq, it_rng, it_enum, opd_n, opd_s, t_set, t_unp, t_par, t_setIx, ownR_l, valR_d, t_aug, t_exp, t_app, frzR_s, t_frz, setS_lt, t_ife, t_ret, t_mov, t_retN, t_brk, t_cnt, t_pass, t_rais, t_tr, wp_try, h_nil, h_cons, then_nx, then_rt, then_bk, then_ct, b_nil, b_cons, after_nx, after_ct, after_bk, after_rt, after_no, after_so, fin_qn, fin_qr, so_vw, so_cst, so_var, so_glob, so_prim, so_sl, so_and, so_or, so_not, so_ife, so_one, so_tru, so_chain, so_call, so_lc, so_pop, snap_d, snap_l, Option.isSome_some, List.getD_cons_zero, List.getD_cons_succ, List.set_cons_zero, List.set_cons_succ, List.length_cons, List.length_nil, Nat.reduceAdd, Nat.reduceSub, Nat.reduceLT, Nat.reduceLeDiff, List.map_cons, List.map_nil, List.replicate, List.cons_append, List.nil_append, List.append_nil, outsOf, wipeE, backE, ownIx, putOuts, Option.toList, It.lk, Es.lk, items_l, items_t, slR_e, sl_t, sl_l, if_true, if_false, Bool.false_eq_true, Bool.true_and, Bool.and_true, Bool.not_true, Bool.not_false, Option.map_some, decide_true, decide_false, q_tup, q_lst, p_add, p_sub, p_mul, p_mod, p_div, p_pow18, p_lt, p_le, p_gt, p_ge, p_eq, p_ne, p_ixL, p_ixT, p_neg, p_lenL, p_lenT, p_int, p_intB, p_abs, p_min, p_max, p_tupL, p_tupT, p_listL, p_listT, p_dic]
    have step : ∀ xs : List D, (d = .lst xs ∨ d = .tup xs) → xs.all carryK = true → manyB (toI ls) xs = false → P.call (k + 5) 7 [.d (.lst ((toI ls).map .int)), .d d] = .ok (.d (.bl false)) [] := fun xs h1 h2 h3 => by
      have := are_carries_ok k (ls := toI ls) h1 h2
      rw [h3] at this
      exact this
    unfold carK at hk
    rw [Bool.and_eq_true] at hk
    cases d with
    | lst xs =>
      simp only [isLs, isTp, Bool.or_false, wp_ok, wp_ex, wp_bind, bnd_ok, bnd_ex, bl_bind, boolR_b, cond_t, cond_f, e_cst, e_var, varR_d, someR_s, e_prim, e_sl, e_slv, e_and, e_or, e_one, e_not, e_tru, e_ife, e_chain, e_call, e_lc, e_pop, s_nil, s_cons, o_no, o_yes, intR_i, pt_no, pt_yes, es_nil, es_val, es_vw, a_nil, a_val, a_vw, it_seq, it_rng, it_enum, opd_n, opd_s, t_set, t_unp, t_par, t_setIx, ownR_l, valR_d, t_aug, t_exp, t_app, frzR_s, t_frz, setS_lt, t_ife, t_ret, t_mov, t_retN, t_brk, t_cnt, t_pass, t_rais, t_tr, wp_try, h_nil, h_cons, then_nx, then_rt, then_bk, then_ct, b_nil, b_cons, after_nx, after_ct, after_bk, after_rt, after_no, after_so, fin_qn, fin_qr, so_vw, so_cst, so_var, so_glob, so_prim, so_sl, so_and, so_or, so_not, so_ife, so_one, so_tru, so_chain, so_call, so_lc, so_pop, snap_d, snap_l, Option.isSome_some, List.getD_cons_zero, List.getD_cons_succ, List.set_cons_zero, List.set_cons_succ, List.length_cons, List.length_nil, Nat.reduceAdd, Nat.reduceSub, Nat.reduceLT, Nat.reduceLeDiff, List.map_cons, List.map_nil, List.replicate, List.cons_append, List.nil_append, List.append_nil, outsOf, wipeE, backE, ownIx, putOuts, Option.toList, It.lk, Es.lk, items_l, items_t, slR_e, sl_t, sl_l, if_true, if_false, Bool.false_eq_true, Bool.true_and, Bool.and_true, Bool.not_true, Bool.not_false, Option.map_some, decide_true, decide_false, q_tup, q_lst, p_add, p_sub, p_mul, p_mod, p_div, p_pow18, p_lt, p_le, p_gt, p_ge, p_eq, p_ne, p_ixL, p_ixT, p_neg, p_lenL, p_lenT, p_int, p_intB, p_abs, p_min, p_max, p_tupL, p_tupT, p_listL, p_listT, p_dic]
      refine wp_pure (step xs (.inl rfl) hk.2 hb) rfl rfl ?_
      simp only [is31, is33, wp_ok, wp_ex, wp_bind, bnd_ok, bnd_ex, bl_bind, boolR_b, cond_t, cond_f, e_cst, e_var, varR_d, someR_s, e_prim, e_sl, e_slv, e_and, e_or, e_one, e_not, e_tru, e_ife, e_chain, e_call, e_lc, e_pop, s_nil, s_cons, o_no, o_yes, intR_i, pt_no, pt_yes, es_nil, es_val, es_vw, a_nil, a_val, a_vw, it_seq, it_rng, it_enum, opd_n, opd_s, t_set, t_unp, t_par, t_setIx, ownR_l, valR_d, t_aug, t_exp, t_app, frzR_s, t_frz, setS_lt, t_ife, t_ret, t_mov, t_retN, t_brk, t_cnt, t_pass, t_rais, t_tr, wp_try, h_nil, h_cons, then_nx, then_rt, then_bk, then_ct, b_nil, b_cons, after_nx, after_ct, after_bk, after_rt, after_no, after_so, fin_qn, fin_qr, so_vw, so_cst, so_var, so_glob, so_prim, so_sl, so_and, so_or, so_not, so_ife, so_one, so_tru, so_chain, so_call, so_lc, so_pop, snap_d, snap_l, Option.isSome_some, List.getD_cons_zero, List.getD_cons_succ, List.set_cons_zero, List.set_cons_succ, List.length_cons, List.length_nil, Nat.reduceAdd, Nat.reduceSub, Nat.reduceLT, Nat.reduceLeDiff, List.map_cons, List.map_nil, List.replicate, List.cons_append, List.nil_append, List.append_nil, outsOf, wipeE, backE, ownIx, putOuts, Option.toList, It.lk, Es.lk, items_l, items_t, slR_e, sl_t, sl_l, if_true, if_false, Bool.false_eq_true, Bool.true_and, Bool.and_true, Bool.not_true, Bool.not_false, Option.map_some, decide_true, decide_false, q_tup, q_lst, p_add, p_sub, p_mul, p_mod, p_div, p_pow18, p_lt, p_le, p_gt, p_ge, p_eq, p_ne, p_ixL, p_ixT, p_neg, p_lenL, p_lenT, p_int, p_intB, p_abs, p_min, p_max, p_tupL, p_tupT, p_listL, p_listT, p_dic]
      constructor <;> first | trivial | rfl
    | tup xs =>
      simp only [isLs, isTp, Bool.or_true, wp_ok, wp_ex, wp_bind, bnd_ok, bnd_ex, bl_bind, boolR_b, cond_t, cond_f, e_cst, e_var, varR_d, someR_s, e_prim, e_sl, e_slv, e_and, e_or, e_one, e_not, e_tru, e_ife, e_chain, e_call, e_lc, e_pop, s_nil, s_cons, o_no, o_yes, intR_i, pt_no, pt_yes, es_nil, es_val, es_vw, a_nil, a_val, a_vw, it_seq, it_rng, it_enum, opd_n, opd_s, t_set, t_unp, t_par, t_setIx, ownR_l, valR_d, t_aug, t_exp, t_app, frzR_s, t_frz, setS_lt, t_ife, t_ret, t_mov, t_retN, t_brk, t_cnt, t_pass, t_rais, t_tr, wp_try, h_nil, h_cons, then_nx, then_rt, then_bk, then_ct, b_nil, b_cons, after_nx, after_ct, after_bk, after_rt, after_no, after_so, fin_qn, fin_qr, so_vw, so_cst, so_var, so_glob, so_prim, so_sl, so_and, so_or, so_not, so_ife, so_one, so_tru, so_chain, so_call, so_lc, so_pop, snap_d, snap_l, Option.isSome_some, List.getD_cons_zero, List.getD_cons_succ, List.set_cons_zero, List.set_cons_succ, List.length_cons, List.length_nil, Nat.reduceAdd, Nat.reduceSub, Nat.reduceLT, Nat.reduceLeDiff, List.map_cons, List.map_nil, List.replicate, List.cons_append, List.nil_append, List.append_nil, outsOf, wipeE, backE, ownIx, putOuts, Option.toList, It.lk, Es.lk, items_l, items_t, slR_e, sl_t, sl_l, if_true, if_false, Bool.false_eq_true, Bool.true_and, Bool.and_true, Bool.not_true, Bool.not_false, Option.map_some, decide_true, decide_false, q_tup, q_lst, p_add, p_sub, p_mul, p_mod, p_div, p_pow18, p_lt, p_le, p_gt, p_ge, p_eq, p_ne, p_ixL, p_ixT, p_neg, p_lenL, p_lenT, p_int, p_intB, p_abs, p_min, p_max, p_tupL, p_tupT, p_listL, p_listT, p_dic]
      refine wp_pure (step xs (.inr rfl) hk.2 hb) rfl rfl ?_
      simp only [is31, is33, wp_ok, wp_ex, wp_bind, bnd_ok, bnd_ex, bl_bind, boolR_b, cond_t, cond_f, e_cst, e_var, varR_d, someR_s, e_prim, e_sl, e_slv, e_and, e_or, e_one, e_not, e_tru, e_ife, e_chain, e_call, e_lc, e_pop, s_nil, s_cons, o_no, o_yes, intR_i, pt_no, pt_yes, es_nil, es_val, es_vw, a_nil, a_val, a_vw, it_seq, it_rng, it_enum, opd_n, opd_s, t_set, t_unp, t_par, t_setIx, ownR_l, valR_d, t_aug, t_exp, t_app, frzR_s, t_frz, setS_lt, t_ife, t_ret, t_mov, t_retN, t_brk, t_cnt, t_pass, t_rais, t_tr, wp_try, h_nil, h_cons, then_nx, then_rt, then_bk, then_ct, b_nil, b_cons, after_nx, after_ct, after_bk, after_rt, after_no, after_so, fin_qn, fin_qr, so_vw, so_cst, so_var, so_glob, so_prim, so_sl, so_and, so_or, so_not, so_ife, so_one, so_tru, so_chain, so_call, so_lc, so_pop, snap_d, snap_l, Option.isSome_some, List.getD_cons_zero, List.getD_cons_succ, List.set_cons_zero, List.set_cons_succ, List.length_cons, List.length_nil, Nat.reduceAdd, Nat.reduceSub, Nat.reduceLT, Nat.reduceLeDiff, List.map_cons, List.map_nil, List.replicate, List.cons_append, List.nil_append, List.append_nil, outsOf, wipeE, backE, ownIx, putOuts, Option.toList, It.lk, Es.lk, items_l, items_t, slR_e, sl_t, sl_l, if_true, if_false, Bool.false_eq_true, Bool.true_and, Bool.and_true, Bool.not_true, Bool.not_false, Option.map_some, decide_true, decide_false, q_tup, q_lst, p_add, p_sub, p_mul, p_mod, p_div, p_pow18, p_lt, p_le, p_gt, p_ge, p_eq, p_ne, p_ixL, p_ixT, p_neg, p_lenL, p_lenT, p_int, p_intB, p_abs, p_min, p_max, p_tupL, p_tupT, p_listL, p_listT, p_dic]
      constructor <;> first | trivial | rfl
    | _ =>
      simp only [isLs, isTp, Bool.or_false, is31, is33, wp_ok, wp_ex, wp_bind, bnd_ok, bnd_ex, bl_bind, boolR_b, cond_t, cond_f, e_cst, e_var, varR_d, someR_s, e_prim, e_sl, e_slv, e_and, e_or, e_one, e_not, e_tru, e_ife, e_chain, e_call, e_lc, e_pop, s_nil, s_cons, o_no, o_yes, intR_i, pt_no, pt_yes, es_nil, es_val, es_vw, a_nil, a_val, a_vw, it_seq, it_rng, it_enum, opd_n, opd_s, t_set, t_unp, t_par, t_setIx, ownR_l, valR_d, t_aug, t_exp, t_app, frzR_s, t_frz, setS_lt, t_ife, t_ret, t_mov, t_retN, t_brk, t_cnt, t_pass, t_rais, t_tr, wp_try, h_nil, h_cons, then_nx, then_rt, then_bk, then_ct, b_nil, b_cons, after_nx, after_ct, after_bk, after_rt, after_no, after_so, fin_qn, fin_qr, so_vw, so_cst, so_var, so_glob, so_prim, so_sl, so_and, so_or, so_not, so_ife, so_one, so_tru, so_chain, so_call, so_lc, so_pop, snap_d, snap_l, Option.isSome_some, List.getD_cons_zero, List.getD_cons_succ, List.set_cons_zero, List.set_cons_succ, List.length_cons, List.length_nil, Nat.reduceAdd, Nat.reduceSub, Nat.reduceLT, Nat.reduceLeDiff, List.map_cons, List.map_nil, List.replicate, List.cons_append, List.nil_append, List.append_nil, outsOf, wipeE, backE, ownIx, putOuts, Option.toList, It.lk, Es.lk, items_l, items_t, slR_e, sl_t, sl_l, if_true, if_false, Bool.false_eq_true, Bool.true_and, Bool.and_true, Bool.not_true, Bool.not_false, Option.map_some, decide_true, decide_false, q_tup, q_lst, p_add, p_sub, p_mul, p_mod, p_div, p_pow18, p_lt, p_le, p_gt, p_ge, p_eq, p_ne, p_ixL, p_ixT, p_neg, p_lenL, p_lenT, p_int, p_intB, p_abs, p_min, p_max, p_tupL, p_tupT, p_listL, p_listT, p_dic]
      constructor <;> first | trivial | rfl
  · intro d hd
    obtain ⟨r, hr, rfl⟩ := List.mem_map.mp hd
    rw [lcT_n _ (by show 3 < 4; decide)]
    simp only [wp_ok, wp_ex, wp_bind, bnd_ok, bnd_ex, bl_bind, boolR_b, cond_t, cond_f, e_cst, e_var, varR_d, someR_s, e_prim, e_sl, e_slv, e_and, e_or, e_one, e_not, e_tru, e_ife, e_chain, e_call, e_lc, e_pop, s_nil, s_cons, o_no, o_yes, intR_i, pt_no, pt_yes, es_nil, es_val, es_vw, a_nil, a_val, a_vw, it_seq, it_rng, it_enum, opd_n, opd_s, t_set, t_unp, t_par, t_setIx, ownR_l, valR_d, t_aug, t_exp, t_app, frzR_s, t_frz, setS_lt, t_ife, t_ret, t_mov, t_retN, t_brk, t_cnt, t_pass, t_rais, t_tr, wp_try, h_nil, h_cons, then_nx, then_rt, then_bk, then_ct, b_nil, b_cons, after_nx, after_ct, after_bk, after_rt, after_no, after_so, fin_qn, fin_qr, so_vw, so_cst, so_var, so_glob, so_prim, so_sl, so_and, so_or, so_not, so_ife, so_one, so_tru, so_chain, so_call, so_lc, so_pop, snap_d, snap_l, Option.isSome_some, List.getD_cons_zero, List.getD_cons_succ, List.set_cons_zero, List.set_cons_succ, List.length_cons, List.length_nil, Nat.reduceAdd, Nat.reduceSub, Nat.reduceLT, Nat.reduceLeDiff, List.map_cons, List.map_nil, List.replicate, List.cons_append, List.nil_append, List.append_nil, outsOf, wipeE, backE, ownIx, putOuts, Option.toList, It.lk, Es.lk, items_l, items_t, slR_e, sl_t, sl_l, if_true, if_false, Bool.false_eq_true, Bool.true_and, Bool.and_true, Bool.not_true, Bool.not_false, Option.map_some, decide_true, decide_false, q_tup, q_lst, p_add, p_sub, p_mul, p_mod, p_div, p_pow18, p_lt, p_le, p_gt, p_ge, p_eq, p_ne, p_ixL, p_ixT, p_neg, p_lenL, p_lenT, p_int, p_intB, p_abs, p_min, p_max, p_tupL, p_tupT, p_listL, p_listT, p_dic]
    constructor <;> first | trivial | rfl
end W

set_option maxHeartbeats 8000000
namespace W
open AM PySem
/-! what is no holding -/
theorem hk_of {xs : List D} (hl : xs.length ≤ 1000) (h : ∀ z ∈ xs, rowK z = true) : holdK (.tup xs) = true := by
  unfold holdK
  rw [Bool.and_eq_true, Bool.and_eq_true]
  exact ⟨⟨rfl, decide_eq_true hl⟩, List.all_eq_true.mpr h⟩
theorem holdB_t (xs : List D) : holdB (.tup xs) = (xs.all isTp && xs.all (fun r => (tupI r).all itemB) && lenB (xs.map fun r => ((tupI r).length : Int))) := rfl
theorem hb_tp {xs : List D} {y : D} (hy : y ∈ xs) (h : isTp y = false) : holdB (.tup xs) = false := by
  have e : xs.all isTp = false := by
    rw [Bool.eq_false_iff]
    intro z
    rw [List.all_eq_true.mp z y hy] at h
    cases h
  rw [holdB_t]
  rw [e]; rfl
theorem hb_it {xs : List D} {y : D} (hy : y ∈ xs) (h : (tupI y).all itemB = false) : holdB (.tup xs) = false := by
  have e : xs.all (fun r => (tupI r).all itemB) = false := by
    rw [Bool.eq_false_iff]
    intro z
    have := List.all_eq_true.mp z y hy
    rw [h] at this
    cases this
  rw [holdB_t]
  rw [e, Bool.and_false]; rfl
theorem hb_len {xs : List D} {y : D} (hy : y ∈ xs) (h : (tupI y).length = 0) : holdB (.tup xs) = false := by
  have e : lenB (xs.map fun r => ((tupI r).length : Int)) = false := by
    unfold lenB
    have e2 : (xs.map fun r => ((tupI r).length : Int)).all (fun i => decide (1 ≤ i) && decide (i ≤ 8)) = false := by
      rw [Bool.eq_false_iff]
      intro z
      have := List.all_eq_true.mp z _ (List.mem_map.mpr ⟨y, hy, rfl⟩)
      rw [h] at this
      cases this
    rw [e2, Bool.and_false]; rfl
  rw [holdB_t]
  rw [e, Bool.and_false]
def NoH (d : D) : Prop := holdK d = true ∧ holdB d = false
theorem GR.rowK {ls : List Nat} {rows : List (List D)} (g : GR ls rows) {z : D} (h : z ∈ rows.map D.tup) : W.rowK z = true := by
  obtain ⟨r, hr, rfl⟩ := List.mem_map.mp h
  unfold W.rowK
  rw [Bool.and_eq_true, Bool.and_eq_true]
  refine ⟨⟨rfl, decide_eq_true ?_⟩, List.all_eq_true.mpr fun x hx => (g.itk r hr x hx).1⟩
  have := g.row hr
  show r.length ≤ 1000
  omega
theorem odd_row {ls : List Nat} {rows : List (List D)} (g : GR ls rows) (s : Nat) {y : D} (hy : W.rowK y = true) : holdK (.tup ((rows.map D.tup).take s ++ [y] ++ (rows.map D.tup).drop (s + 1))) = true := by
  have h6 := g.le6
  refine hk_of ?_ fun z hz => ?_
  · rw [List.length_append, List.length_append, List.length_take, List.length_drop, List.length_map, List.length_singleton]
    omega
  · rcases List.mem_append.mp hz with q | q
    · rcases List.mem_append.mp q with q | q
      · exact g.rowK (List.mem_of_mem_take q)
      · rw [List.mem_singleton.mp q]; exact hy
    · exact g.rowK (List.mem_of_mem_drop q)
theorem mem_mid {xs ys : List D} {y : D} : y ∈ xs ++ [y] ++ ys := List.mem_append_left _ (List.mem_append_right _ (List.mem_singleton.mpr rfl))
theorem m9 : primF (.bin .Mult) [.tup [.non], .int 9] = some (.d (.tup [.non, .non, .non, .non, .non, .non, .non, .non, .non])) := by rfl
theorem m7 : primF (.bin .Mult) [.tup [.non], .int 7] = some (.d (.tup [.non, .non, .non, .non, .non, .non, .non])) := by rfl
theorem m6 : primF (.bin .Mult) [.tup [.non], .int 6] = some (.d (.tup [.non, .non, .non, .non, .non, .non])) := by rfl
theorem mt7 : primF (.bin .Mult) [.tup [.tup [.non]], .int 7] = some (.d (.tup [.tup [.non], .tup [.non], .tup [.non], .tup [.non], .tup [.non], .tup [.non], .tup [.non]])) := by rfl
theorem w_noh {k i : Nat} {ls : List Nat} {rows : List (List D)} (g : GR ls rows) {ds : List D} {env : AM.Env} {Q : T → AM.Env → Prop} {E : X → AM.Env → Prop} (h : Die ds) (hq : ∀ (d : D) (ds' : List D), NoH d → Die ds' → Q (.d d) (env.set i (some (.l ds')))) :
    (callK ⟨P.call (k + 2), P.io, P.glob⟩ 19 [some i, none] [.l ds, .d (hold rows)] env).wp Q E := by
  obtain ⟨f1, f2, f3⟩ := lenB_facts g.lsB
  have h6 := g.le6
  refine wp_run (fn := c__law_no_holding) rfl rfl rfl rfl ?_
  simp only [c__law_no_holding, hold, wp_ok, wp_ex, wp_bind, bnd_ok, bnd_ex, bl_bind, boolR_b, cond_t, cond_f, e_cst, e_var, varR_d, someR_s, e_prim, e_sl, e_slv, e_and, e_or, e_one, e_not, e_tru, e_ife, e_chain, e_call, e_lc, e_pop, s_nil, s_cons, o_no, o_yes, intR_i, pt_no, pt_yes, es_nil, es_val, es_vw, a_nil, a_val, a_vw, it_seq, it_rng, it_enum, opd_n, opd_s, t_set, t_unp, t_par, t_setIx, ownR_l, valR_d, t_aug, t_exp, t_app, frzR_s, t_frz, setS_lt, t_ife, t_ret, t_mov, t_retN, t_brk, t_cnt, t_pass, t_rais, t_tr, wp_try, h_nil, h_cons, then_nx, then_rt, then_bk, then_ct, b_nil, b_cons, after_nx, after_ct, after_bk, after_rt, after_no, after_so, fin_qn, fin_qr, so_vw, so_cst, so_var, so_glob, so_prim, so_sl, so_and, so_or, so_not, so_ife, so_one, so_tru, so_chain, so_call, so_lc, so_pop, snap_d, snap_l, Option.isSome_some, List.getD_cons_zero, List.getD_cons_succ, List.set_cons_zero, List.set_cons_succ, List.length_cons, List.length_nil, Nat.reduceAdd, Nat.reduceSub, Nat.reduceLT, Nat.reduceLeDiff, List.map_cons, List.map_nil, List.replicate, List.cons_append, List.nil_append, List.append_nil, outsOf, wipeE, backE, ownIx, putOuts, Option.toList, It.lk, Es.lk, items_l, items_t, slR_e, sl_t, sl_l, if_true, if_false, Bool.false_eq_true, Bool.true_and, Bool.and_true, Bool.not_true, Bool.not_false, Option.map_some, decide_true, decide_false, q_tup, q_lst, p_add, p_sub, p_mul, p_mod, p_div, p_pow18, p_lt, p_le, p_gt, p_ge, p_eq, p_ne, p_ixL, p_ixT, p_neg, p_lenL, p_lenT, p_int, p_intB, p_abs, p_min, p_max, p_tupL, p_tupT, p_listL, p_listT, p_dic]
  have hln : ((rows.map D.tup).length : Int) = (ls.length : Int) := by rw [List.length_map, g.cnt]
  rw [hln]
  refine w_draw h (by omega) (by omega) fun s d1 hs h1 => ?_
  have hsr : s < rows.length := by rw [g.cnt]; omega
  simp only [wp_ok, wp_ex, wp_bind, bnd_ok, bnd_ex, bl_bind, boolR_b, cond_t, cond_f, e_cst, e_var, varR_d, someR_s, e_prim, e_sl, e_slv, e_and, e_or, e_one, e_not, e_tru, e_ife, e_chain, e_call, e_lc, e_pop, s_nil, s_cons, o_no, o_yes, intR_i, pt_no, pt_yes, es_nil, es_val, es_vw, a_nil, a_val, a_vw, it_seq, it_rng, it_enum, opd_n, opd_s, t_set, t_unp, t_par, t_setIx, ownR_l, valR_d, t_aug, t_exp, t_app, frzR_s, t_frz, setS_lt, t_ife, t_ret, t_mov, t_retN, t_brk, t_cnt, t_pass, t_rais, t_tr, wp_try, h_nil, h_cons, then_nx, then_rt, then_bk, then_ct, b_nil, b_cons, after_nx, after_ct, after_bk, after_rt, after_no, after_so, fin_qn, fin_qr, so_vw, so_cst, so_var, so_glob, so_prim, so_sl, so_and, so_or, so_not, so_ife, so_one, so_tru, so_chain, so_call, so_lc, so_pop, snap_d, snap_l, Option.isSome_some, List.getD_cons_zero, List.getD_cons_succ, List.set_cons_zero, List.set_cons_succ, List.length_cons, List.length_nil, Nat.reduceAdd, Nat.reduceSub, Nat.reduceLT, Nat.reduceLeDiff, List.map_cons, List.map_nil, List.replicate, List.cons_append, List.nil_append, List.append_nil, outsOf, wipeE, backE, ownIx, putOuts, Option.toList, It.lk, Es.lk, items_l, items_t, slR_e, sl_t, sl_l, if_true, if_false, Bool.false_eq_true, Bool.true_and, Bool.and_true, Bool.not_true, Bool.not_false, Option.map_some, decide_true, decide_false, q_tup, q_lst, p_add, p_sub, p_mul, p_mod, p_div, p_pow18, p_lt, p_le, p_gt, p_ge, p_eq, p_ne, p_ixL, p_ixT, p_neg, p_lenL, p_lenT, p_int, p_intB, p_abs, p_min, p_max, p_tupL, p_tupT, p_listL, p_listT, p_dic]
  refine w_draw (n := 6) h1 (by decide) (by decide) fun r d2 hr h2 => ?_
  simp only [wp_ok, wp_ex, wp_bind, bnd_ok, bnd_ex, bl_bind, boolR_b, cond_t, cond_f, e_cst, e_var, varR_d, someR_s, e_prim, e_sl, e_slv, e_and, e_or, e_one, e_not, e_tru, e_ife, e_chain, e_call, e_lc, e_pop, s_nil, s_cons, o_no, o_yes, intR_i, pt_no, pt_yes, es_nil, es_val, es_vw, a_nil, a_val, a_vw, it_seq, it_rng, it_enum, opd_n, opd_s, t_set, t_unp, t_par, t_setIx, ownR_l, valR_d, t_aug, t_exp, t_app, frzR_s, t_frz, setS_lt, t_ife, t_ret, t_mov, t_retN, t_brk, t_cnt, t_pass, t_rais, t_tr, wp_try, h_nil, h_cons, then_nx, then_rt, then_bk, then_ct, b_nil, b_cons, after_nx, after_ct, after_bk, after_rt, after_no, after_so, fin_qn, fin_qr, so_vw, so_cst, so_var, so_glob, so_prim, so_sl, so_and, so_or, so_not, so_ife, so_one, so_tru, so_chain, so_call, so_lc, so_pop, snap_d, snap_l, Option.isSome_some, List.getD_cons_zero, List.getD_cons_succ, List.set_cons_zero, List.set_cons_succ, List.length_cons, List.length_nil, Nat.reduceAdd, Nat.reduceSub, Nat.reduceLT, Nat.reduceLeDiff, List.map_cons, List.map_nil, List.replicate, List.cons_append, List.nil_append, List.append_nil, outsOf, wipeE, backE, ownIx, putOuts, Option.toList, It.lk, Es.lk, items_l, items_t, slR_e, sl_t, sl_l, if_true, if_false, Bool.false_eq_true, Bool.true_and, Bool.and_true, Bool.not_true, Bool.not_false, Option.map_some, decide_true, decide_false, q_tup, q_lst, p_add, p_sub, p_mul, p_mod, p_div, p_pow18, p_lt, p_le, p_gt, p_ge, p_eq, p_ne, p_ixL, p_ixT, p_neg, p_lenL, p_lenT, p_int, p_intB, p_abs, p_min, p_max, p_tupL, p_tupT, p_listL, p_listT, p_dic]
  refine wp_ix (fun x => known x = true ∧ itemB x = false) ?_ (by exact hr) fun odd hodd => ?_
  · intro x hx
    simp only [List.mem_cons, List.mem_nil_iff, or_false] at hx
    rcases hx with rfl | rfl | rfl | rfl | rfl | rfl <;> exact ⟨rfl, rfl⟩
  have hrow := g.row (getD_mem hsr)
  have hrk : W.rowK (.tup (rows.getD s [])) = true := g.rowK (List.mem_map.mpr ⟨_, getD_mem hsr, rfl⟩)
  simp only [at_rows hsr, wp_ok, wp_ex, wp_bind, bnd_ok, bnd_ex, bl_bind, boolR_b, cond_t, cond_f, e_cst, e_var, varR_d, someR_s, e_prim, e_sl, e_slv, e_and, e_or, e_one, e_not, e_tru, e_ife, e_chain, e_call, e_lc, e_pop, s_nil, s_cons, o_no, o_yes, intR_i, pt_no, pt_yes, es_nil, es_val, es_vw, a_nil, a_val, a_vw, it_seq, it_rng, it_enum, opd_n, opd_s, t_set, t_unp, t_par, t_setIx, ownR_l, valR_d, t_aug, t_exp, t_app, frzR_s, t_frz, setS_lt, t_ife, t_ret, t_mov, t_retN, t_brk, t_cnt, t_pass, t_rais, t_tr, wp_try, h_nil, h_cons, then_nx, then_rt, then_bk, then_ct, b_nil, b_cons, after_nx, after_ct, after_bk, after_rt, after_no, after_so, fin_qn, fin_qr, so_vw, so_cst, so_var, so_glob, so_prim, so_sl, so_and, so_or, so_not, so_ife, so_one, so_tru, so_chain, so_call, so_lc, so_pop, snap_d, snap_l, Option.isSome_some, List.getD_cons_zero, List.getD_cons_succ, List.set_cons_zero, List.set_cons_succ, List.length_cons, List.length_nil, Nat.reduceAdd, Nat.reduceSub, Nat.reduceLT, Nat.reduceLeDiff, List.map_cons, List.map_nil, List.replicate, List.cons_append, List.nil_append, List.append_nil, outsOf, wipeE, backE, ownIx, putOuts, Option.toList, It.lk, Es.lk, items_l, items_t, slR_e, sl_t, sl_l, if_true, if_false, Bool.false_eq_true, Bool.true_and, Bool.and_true, Bool.not_true, Bool.not_false, Option.map_some, decide_true, decide_false, q_tup, q_lst, p_add, p_sub, p_mul, p_mod, p_div, p_pow18, p_lt, p_le, p_gt, p_ge, p_eq, p_ne, p_ixL, p_ixT, p_neg, p_lenL, p_lenT, p_int, p_intB, p_abs, p_min, p_max, p_tupL, p_tupT, p_listL, p_listT, p_dic]
  generalize hrd : rows.getD s [] = row at hrow hrk
  refine w_draw (n := (row.length : Int)) h2 (by omega) (by omega) fun t d3 ht h3 => ?_
  have htr : t < row.length := by omega
  have hT : ∀ x : D, primF (.bin .Add) [.tup ((rows.map D.tup).take s), .tup [x]] = some (.d (.tup ((rows.map D.tup).take s ++ [x]))) := fun x => q_addT _ _ (by rw [List.length_take, List.length_map, List.length_singleton]; omega)
  have hT2 : ∀ x : D, primF (.bin .Add) [.tup ((rows.map D.tup).take s ++ [x]), .tup ((rows.map D.tup).drop (s + 1))] = some (.d (.tup ((rows.map D.tup).take s ++ [x] ++ (rows.map D.tup).drop (s + 1)))) := fun x => q_addT _ _ (by rw [List.length_append, List.length_take, List.length_drop, List.length_map, List.length_singleton]; omega)
  have hU : ∀ x : D, primF (.bin .Add) [.tup (row.take t), .tup [x]] = some (.d (.tup (row.take t ++ [x]))) := fun x => q_addT _ _ (by rw [List.length_take, List.length_singleton]; omega)
  have hU2 : ∀ x : D, primF (.bin .Add) [.tup (row.take t ++ [x]), .tup (row.drop (t + 1))] = some (.d (.tup (row.take t ++ [x] ++ row.drop (t + 1)))) := fun x => q_addT _ _ (by rw [List.length_append, List.length_take, List.length_drop, List.length_singleton]; omega)
  have c1 : cutG (rows.map D.tup) none (some (s : Int)) = (rows.map D.tup).take s := cut_to (by rw [List.length_map]; omega)
  have c2 : cutG (rows.map D.tup) (some ((s : Int) + 1)) none = (rows.map D.tup).drop (s + 1) := cut_from1 (by rw [List.length_map]; omega)
  have c3 : cutG row none (some (t : Int)) = row.take t := cut_to (by omega)
  have c4 : cutG row (some ((t : Int) + 1)) none = row.drop (t + 1) := cut_from1 htr
  simp only [c1, c2, c3, c4, hT, hT2, hU, hU2, q_addL, m9, m7, m6, mt7, wp_ok, wp_ex, wp_bind, bnd_ok, bnd_ex, bl_bind, boolR_b, cond_t, cond_f, e_cst, e_var, varR_d, someR_s, e_prim, e_sl, e_slv, e_and, e_or, e_one, e_not, e_tru, e_ife, e_chain, e_call, e_lc, e_pop, s_nil, s_cons, o_no, o_yes, intR_i, pt_no, pt_yes, es_nil, es_val, es_vw, a_nil, a_val, a_vw, it_seq, it_rng, it_enum, opd_n, opd_s, t_set, t_unp, t_par, t_setIx, ownR_l, valR_d, t_aug, t_exp, t_app, frzR_s, t_frz, setS_lt, t_ife, t_ret, t_mov, t_retN, t_brk, t_cnt, t_pass, t_rais, t_tr, wp_try, h_nil, h_cons, then_nx, then_rt, then_bk, then_ct, b_nil, b_cons, after_nx, after_ct, after_bk, after_rt, after_no, after_so, fin_qn, fin_qr, so_vw, so_cst, so_var, so_glob, so_prim, so_sl, so_and, so_or, so_not, so_ife, so_one, so_tru, so_chain, so_call, so_lc, so_pop, snap_d, snap_l, Option.isSome_some, List.getD_cons_zero, List.getD_cons_succ, List.set_cons_zero, List.set_cons_succ, List.length_cons, List.length_nil, Nat.reduceAdd, Nat.reduceSub, Nat.reduceLT, Nat.reduceLeDiff, List.map_cons, List.map_nil, List.replicate, List.cons_append, List.nil_append, List.append_nil, outsOf, wipeE, backE, ownIx, putOuts, Option.toList, It.lk, Es.lk, items_l, items_t, slR_e, sl_t, sl_l, if_true, if_false, Bool.false_eq_true, Bool.true_and, Bool.and_true, Bool.not_true, Bool.not_false, Option.map_some, decide_true, decide_false, q_tup, q_lst, p_add, p_sub, p_mul, p_mod, p_div, p_pow18, p_lt, p_le, p_gt, p_ge, p_eq, p_ne, p_ixL, p_ixT, p_neg, p_lenL, p_lenT, p_int, p_intB, p_abs, p_min, p_max, p_tupL, p_tupT, p_listL, p_listT, p_dic]
  refine w_draw (n := 12) h3 (by decide) (by decide) fun q d4 hq4 h4 => ?_
  simp only [wp_ok, wp_ex, wp_bind, bnd_ok, bnd_ex, bl_bind, boolR_b, cond_t, cond_f, e_cst, e_var, varR_d, someR_s, e_prim, e_sl, e_slv, e_and, e_or, e_one, e_not, e_tru, e_ife, e_chain, e_call, e_lc, e_pop, s_nil, s_cons, o_no, o_yes, intR_i, pt_no, pt_yes, es_nil, es_val, es_vw, a_nil, a_val, a_vw, it_seq, it_rng, it_enum, opd_n, opd_s, t_set, t_unp, t_par, t_setIx, ownR_l, valR_d, t_aug, t_exp, t_app, frzR_s, t_frz, setS_lt, t_ife, t_ret, t_mov, t_retN, t_brk, t_cnt, t_pass, t_rais, t_tr, wp_try, h_nil, h_cons, then_nx, then_rt, then_bk, then_ct, b_nil, b_cons, after_nx, after_ct, after_bk, after_rt, after_no, after_so, fin_qn, fin_qr, so_vw, so_cst, so_var, so_glob, so_prim, so_sl, so_and, so_or, so_not, so_ife, so_one, so_tru, so_chain, so_call, so_lc, so_pop, snap_d, snap_l, Option.isSome_some, List.getD_cons_zero, List.getD_cons_succ, List.set_cons_zero, List.set_cons_succ, List.length_cons, List.length_nil, Nat.reduceAdd, Nat.reduceSub, Nat.reduceLT, Nat.reduceLeDiff, List.map_cons, List.map_nil, List.replicate, List.cons_append, List.nil_append, List.append_nil, outsOf, wipeE, backE, ownIx, putOuts, Option.toList, It.lk, Es.lk, items_l, items_t, slR_e, sl_t, sl_l, if_true, if_false, Bool.false_eq_true, Bool.true_and, Bool.and_true, Bool.not_true, Bool.not_false, Option.map_some, decide_true, decide_false, q_tup, q_lst, p_add, p_sub, p_mul, p_mod, p_div, p_pow18, p_lt, p_le, p_gt, p_ge, p_eq, p_ne, p_ixL, p_ixT, p_neg, p_lenL, p_lenT, p_int, p_intB, p_abs, p_min, p_max, p_tupL, p_tupT, p_listL, p_listT, p_dic]
  refine wp_ix NoH ?_ (by exact hq4) fun d hd => ?_
  · have hkl : W.rowK (.lst row) = true := rfl
    have hko : W.rowK (.tup (row.take t ++ [odd] ++ row.drop (t + 1))) = true := by
      unfold W.rowK at hrk ⊢
      simp only [Bool.and_eq_true, decide_eq_true_eq] at hrk ⊢
      refine ⟨⟨rfl, ?_⟩, List.all_eq_true.mpr fun z hz => ?_⟩
      · show (row.take t ++ [odd] ++ row.drop (t + 1)).length ≤ 1000
        rw [List.length_append, List.length_append, List.length_take, List.length_drop, List.length_singleton]
        omega
      · have hall := List.all_eq_true.mp hrk.2
        rcases List.mem_append.mp hz with q | q
        · rcases List.mem_append.mp q with q | q
          · exact hall z (List.mem_of_mem_take q)
          · rw [List.mem_singleton.mp q]; exact hodd.1
        · exact hall z (List.mem_of_mem_drop q)
    intro x hx
    simp only [List.mem_cons, List.mem_nil_iff, or_false] at hx
    rcases hx with rfl | rfl | rfl | rfl | rfl | rfl | rfl | rfl | rfl | rfl | rfl | rfl
    · exact ⟨rfl, rfl⟩
    · exact ⟨rfl, rfl⟩
    · exact ⟨rfl, rfl⟩
    · exact ⟨rfl, rfl⟩
    · exact ⟨rfl, rfl⟩
    · exact ⟨rfl, rfl⟩
    · exact ⟨odd_row g s hkl, hb_tp mem_mid rfl⟩
    · refine ⟨odd_row g s hko, hb_it mem_mid ?_⟩
      rw [Bool.eq_false_iff]
      intro z
      have := List.all_eq_true.mp z odd mem_mid
      rw [hodd.2] at this
      cases this
    · exact ⟨odd_row g s rfl, hb_len mem_mid rfl⟩
    · exact ⟨rfl, by decide +kernel⟩
    · exact ⟨rfl, by decide +kernel⟩
    · exact ⟨rfl, by decide +kernel⟩
  · simp only [wp_ok, wp_ex, wp_bind, bnd_ok, bnd_ex, bl_bind, boolR_b, cond_t, cond_f, e_cst, e_var, varR_d, someR_s, e_prim, e_sl, e_slv, e_and, e_or, e_one, e_not, e_tru, e_ife, e_chain, e_call, e_lc, e_pop, s_nil, s_cons, o_no, o_yes, intR_i, pt_no, pt_yes, es_nil, es_val, es_vw, a_nil, a_val, a_vw, it_seq, it_rng, it_enum, opd_n, opd_s, t_set, t_unp, t_par, t_setIx, ownR_l, valR_d, t_aug, t_exp, t_app, frzR_s, t_frz, setS_lt, t_ife, t_ret, t_mov, t_retN, t_brk, t_cnt, t_pass, t_rais, t_tr, wp_try, h_nil, h_cons, then_nx, then_rt, then_bk, then_ct, b_nil, b_cons, after_nx, after_ct, after_bk, after_rt, after_no, after_so, fin_qn, fin_qr, so_vw, so_cst, so_var, so_glob, so_prim, so_sl, so_and, so_or, so_not, so_ife, so_one, so_tru, so_chain, so_call, so_lc, so_pop, snap_d, snap_l, Option.isSome_some, List.getD_cons_zero, List.getD_cons_succ, List.set_cons_zero, List.set_cons_succ, List.length_cons, List.length_nil, Nat.reduceAdd, Nat.reduceSub, Nat.reduceLT, Nat.reduceLeDiff, List.map_cons, List.map_nil, List.replicate, List.cons_append, List.nil_append, List.append_nil, outsOf, wipeE, backE, ownIx, putOuts, Option.toList, It.lk, Es.lk, items_l, items_t, slR_e, sl_t, sl_l, if_true, if_false, Bool.false_eq_true, Bool.true_and, Bool.and_true, Bool.not_true, Bool.not_false, Option.map_some, decide_true, decide_false, q_tup, q_lst, p_add, p_sub, p_mul, p_mod, p_div, p_pow18, p_lt, p_le, p_gt, p_ge, p_eq, p_ne, p_ixL, p_ixT, p_neg, p_lenL, p_lenT, p_int, p_intB, p_abs, p_min, p_max, p_tupL, p_tupT, p_listL, p_listT, p_dic]
    exact hq d d4 hd h4
end W

set_option maxHeartbeats 8000000
namespace W
open AM PySem
/-! what is no carry -/
def NoC (ls : List Nat) (d : D) : Prop := carryK d = true ∧ carryB (toI ls) d = false
def NoI (n : Nat) (d : D) : Prop := known d = true ∧ (tupI d).all known = true ∧ idxB d (n : Int) = false
theorem idx_self (n : Nat) : idxB (.int (n : Int)) (n : Int) = false := by
  show (decide ((0 : Int) ≤ n) && decide ((n : Int) < n)) = false
  rw [decide_eq_false (show ¬ ((n : Int) < n) by omega), Bool.and_false]
theorem idx_neg (n : Int) : idxB (.int (-1)) n = false := rfl
theorem roomB_2 (ls : List Int) (a b : D) : roomB ls (.tup [a, b]) = (idxB a ls.length && (match a with | .int i => idxB b (ls.getD i.toNat 0) | _ => false)) := rfl
theorem carryB_2 (ls : List Int) (a b : D) : carryB ls (.tup [a, b]) = (roomB ls a && idxB b ls.length) := rfl
theorem w_noc {k i : Nat} {ls : List Nat} (hls : lenB (toI ls) = true) {ds : List D} {env : AM.Env} {Q : T → AM.Env → Prop} {E : X → AM.Env → Prop} (h : Die ds) (hq : ∀ (d : D) (ds' : List D), NoC ls d → Die ds' → Q (.d d) (env.set i (some (.l ds')))) :
    (callK ⟨P.call (k + 2), P.io, P.glob⟩ 20 [some i, none] [.l ds, .d (.tup ((toI ls).map .int))] env).wp Q E := by
  obtain ⟨f1, f2, f3⟩ := lenB_facts hls
  have hln : (((toI ls).map D.int).length : Int) = (ls.length : Int) := by rw [List.length_map, toI_len]
  refine wp_run (fn := c__law_no_carry) rfl rfl rfl rfl ?_
  simp only [c__law_no_carry, hln, wp_ok, wp_ex, wp_bind, bnd_ok, bnd_ex, bl_bind, boolR_b, cond_t, cond_f, e_cst, e_var, varR_d, someR_s, e_prim, e_sl, e_slv, e_and, e_or, e_one, e_not, e_tru, e_ife, e_chain, e_call, e_lc, e_pop, s_nil, s_cons, o_no, o_yes, intR_i, pt_no, pt_yes, es_nil, es_val, es_vw, a_nil, a_val, a_vw, it_seq, it_rng, it_enum, opd_n, opd_s, t_set, t_unp, t_par, t_setIx, ownR_l, valR_d, t_aug, t_exp, t_app, frzR_s, t_frz, setS_lt, t_ife, t_ret, t_mov, t_retN, t_brk, t_cnt, t_pass, t_rais, t_tr, wp_try, h_nil, h_cons, then_nx, then_rt, then_bk, then_ct, b_nil, b_cons, after_nx, after_ct, after_bk, after_rt, after_no, after_so, fin_qn, fin_qr, so_vw, so_cst, so_var, so_glob, so_prim, so_sl, so_and, so_or, so_not, so_ife, so_one, so_tru, so_chain, so_call, so_lc, so_pop, snap_d, snap_l, Option.isSome_some, List.getD_cons_zero, List.getD_cons_succ, List.set_cons_zero, List.set_cons_succ, List.length_cons, List.length_nil, Nat.reduceAdd, Nat.reduceSub, Nat.reduceLT, Nat.reduceLeDiff, List.map_cons, List.map_nil, List.replicate, List.cons_append, List.nil_append, List.append_nil, outsOf, wipeE, backE, ownIx, putOuts, Option.toList, It.lk, Es.lk, items_l, items_t, slR_e, sl_t, sl_l, if_true, if_false, Bool.false_eq_true, Bool.true_and, Bool.and_true, Bool.not_true, Bool.not_false, Option.map_some, decide_true, decide_false, q_tup, q_lst, p_add, p_sub, p_mul, p_mod, p_div, p_pow18, p_lt, p_le, p_gt, p_ge, p_eq, p_ne, p_ixL, p_ixT, p_neg, p_lenL, p_lenT, p_int, p_intB, p_abs, p_min, p_max, p_tupL, p_tupT, p_listL, p_listT, p_dic]
  refine w_draw h (by omega) (by omega) fun b d1 hb h1 => ?_
  have hb' : b < ls.length := by omega
  simp only [hln, wp_ok, wp_ex, wp_bind, bnd_ok, bnd_ex, bl_bind, boolR_b, cond_t, cond_f, e_cst, e_var, varR_d, someR_s, e_prim, e_sl, e_slv, e_and, e_or, e_one, e_not, e_tru, e_ife, e_chain, e_call, e_lc, e_pop, s_nil, s_cons, o_no, o_yes, intR_i, pt_no, pt_yes, es_nil, es_val, es_vw, a_nil, a_val, a_vw, it_seq, it_rng, it_enum, opd_n, opd_s, t_set, t_unp, t_par, t_setIx, ownR_l, valR_d, t_aug, t_exp, t_app, frzR_s, t_frz, setS_lt, t_ife, t_ret, t_mov, t_retN, t_brk, t_cnt, t_pass, t_rais, t_tr, wp_try, h_nil, h_cons, then_nx, then_rt, then_bk, then_ct, b_nil, b_cons, after_nx, after_ct, after_bk, after_rt, after_no, after_so, fin_qn, fin_qr, so_vw, so_cst, so_var, so_glob, so_prim, so_sl, so_and, so_or, so_not, so_ife, so_one, so_tru, so_chain, so_call, so_lc, so_pop, snap_d, snap_l, Option.isSome_some, List.getD_cons_zero, List.getD_cons_succ, List.set_cons_zero, List.set_cons_succ, List.length_cons, List.length_nil, Nat.reduceAdd, Nat.reduceSub, Nat.reduceLT, Nat.reduceLeDiff, List.map_cons, List.map_nil, List.replicate, List.cons_append, List.nil_append, List.append_nil, outsOf, wipeE, backE, ownIx, putOuts, Option.toList, It.lk, Es.lk, items_l, items_t, slR_e, sl_t, sl_l, if_true, if_false, Bool.false_eq_true, Bool.true_and, Bool.and_true, Bool.not_true, Bool.not_false, Option.map_some, decide_true, decide_false, q_tup, q_lst, p_add, p_sub, p_mul, p_mod, p_div, p_pow18, p_lt, p_le, p_gt, p_ge, p_eq, p_ne, p_ixL, p_ixT, p_neg, p_lenL, p_lenT, p_int, p_intB, p_abs, p_min, p_max, p_tupL, p_tupT, p_listL, p_listT, p_dic]
  refine w_draw (n := 6) h1 (by decide) (by decide) fun r d2 hr h2 => ?_
  simp only [wp_ok, wp_ex, wp_bind, bnd_ok, bnd_ex, bl_bind, boolR_b, cond_t, cond_f, e_cst, e_var, varR_d, someR_s, e_prim, e_sl, e_slv, e_and, e_or, e_one, e_not, e_tru, e_ife, e_chain, e_call, e_lc, e_pop, s_nil, s_cons, o_no, o_yes, intR_i, pt_no, pt_yes, es_nil, es_val, es_vw, a_nil, a_val, a_vw, it_seq, it_rng, it_enum, opd_n, opd_s, t_set, t_unp, t_par, t_setIx, ownR_l, valR_d, t_aug, t_exp, t_app, frzR_s, t_frz, setS_lt, t_ife, t_ret, t_mov, t_retN, t_brk, t_cnt, t_pass, t_rais, t_tr, wp_try, h_nil, h_cons, then_nx, then_rt, then_bk, then_ct, b_nil, b_cons, after_nx, after_ct, after_bk, after_rt, after_no, after_so, fin_qn, fin_qr, so_vw, so_cst, so_var, so_glob, so_prim, so_sl, so_and, so_or, so_not, so_ife, so_one, so_tru, so_chain, so_call, so_lc, so_pop, snap_d, snap_l, Option.isSome_some, List.getD_cons_zero, List.getD_cons_succ, List.set_cons_zero, List.set_cons_succ, List.length_cons, List.length_nil, Nat.reduceAdd, Nat.reduceSub, Nat.reduceLT, Nat.reduceLeDiff, List.map_cons, List.map_nil, List.replicate, List.cons_append, List.nil_append, List.append_nil, outsOf, wipeE, backE, ownIx, putOuts, Option.toList, It.lk, Es.lk, items_l, items_t, slR_e, sl_t, sl_l, if_true, if_false, Bool.false_eq_true, Bool.true_and, Bool.and_true, Bool.not_true, Bool.not_false, Option.map_some, decide_true, decide_false, q_tup, q_lst, p_add, p_sub, p_mul, p_mod, p_div, p_pow18, p_lt, p_le, p_gt, p_ge, p_eq, p_ne, p_ixL, p_ixT, p_neg, p_lenL, p_lenT, p_int, p_intB, p_abs, p_min, p_max, p_tupL, p_tupT, p_listL, p_listT, p_dic]
  refine wp_ix (NoI ls.length) ?_ (by exact hr) fun w hw => ?_
  · intro x hx
    simp only [List.mem_cons, List.mem_nil_iff, or_false] at hx
    rcases hx with rfl | rfl | rfl | rfl | rfl | rfl
    · exact ⟨rfl, rfl, idx_self _⟩
    all_goals exact ⟨rfl, rfl, rfl⟩
  simp only [at_lens hb', q_addL, wp_ok, wp_ex, wp_bind, bnd_ok, bnd_ex, bl_bind, boolR_b, cond_t, cond_f, e_cst, e_var, varR_d, someR_s, e_prim, e_sl, e_slv, e_and, e_or, e_one, e_not, e_tru, e_ife, e_chain, e_call, e_lc, e_pop, s_nil, s_cons, o_no, o_yes, intR_i, pt_no, pt_yes, es_nil, es_val, es_vw, a_nil, a_val, a_vw, it_seq, it_rng, it_enum, opd_n, opd_s, t_set, t_unp, t_par, t_setIx, ownR_l, valR_d, t_aug, t_exp, t_app, frzR_s, t_frz, setS_lt, t_ife, t_ret, t_mov, t_retN, t_brk, t_cnt, t_pass, t_rais, t_tr, wp_try, h_nil, h_cons, then_nx, then_rt, then_bk, then_ct, b_nil, b_cons, after_nx, after_ct, after_bk, after_rt, after_no, after_so, fin_qn, fin_qr, so_vw, so_cst, so_var, so_glob, so_prim, so_sl, so_and, so_or, so_not, so_ife, so_one, so_tru, so_chain, so_call, so_lc, so_pop, snap_d, snap_l, Option.isSome_some, List.getD_cons_zero, List.getD_cons_succ, List.set_cons_zero, List.set_cons_succ, List.length_cons, List.length_nil, Nat.reduceAdd, Nat.reduceSub, Nat.reduceLT, Nat.reduceLeDiff, List.map_cons, List.map_nil, List.replicate, List.cons_append, List.nil_append, List.append_nil, outsOf, wipeE, backE, ownIx, putOuts, Option.toList, It.lk, Es.lk, items_l, items_t, slR_e, sl_t, sl_l, if_true, if_false, Bool.false_eq_true, Bool.true_and, Bool.and_true, Bool.not_true, Bool.not_false, Option.map_some, decide_true, decide_false, q_tup, q_lst, p_add, p_sub, p_mul, p_mod, p_div, p_pow18, p_lt, p_le, p_gt, p_ge, p_eq, p_ne, p_ixL, p_ixT, p_neg, p_lenL, p_lenT, p_int, p_intB, p_abs, p_min, p_max, p_tupL, p_tupT, p_listL, p_listT, p_dic]
  refine w_draw (n := 13) h2 (by decide) (by decide) fun q d3 hq3 h3 => ?_
  simp only [wp_ok, wp_ex, wp_bind, bnd_ok, bnd_ex, bl_bind, boolR_b, cond_t, cond_f, e_cst, e_var, varR_d, someR_s, e_prim, e_sl, e_slv, e_and, e_or, e_one, e_not, e_tru, e_ife, e_chain, e_call, e_lc, e_pop, s_nil, s_cons, o_no, o_yes, intR_i, pt_no, pt_yes, es_nil, es_val, es_vw, a_nil, a_val, a_vw, it_seq, it_rng, it_enum, opd_n, opd_s, t_set, t_unp, t_par, t_setIx, ownR_l, valR_d, t_aug, t_exp, t_app, frzR_s, t_frz, setS_lt, t_ife, t_ret, t_mov, t_retN, t_brk, t_cnt, t_pass, t_rais, t_tr, wp_try, h_nil, h_cons, then_nx, then_rt, then_bk, then_ct, b_nil, b_cons, after_nx, after_ct, after_bk, after_rt, after_no, after_so, fin_qn, fin_qr, so_vw, so_cst, so_var, so_glob, so_prim, so_sl, so_and, so_or, so_not, so_ife, so_one, so_tru, so_chain, so_call, so_lc, so_pop, snap_d, snap_l, Option.isSome_some, List.getD_cons_zero, List.getD_cons_succ, List.set_cons_zero, List.set_cons_succ, List.length_cons, List.length_nil, Nat.reduceAdd, Nat.reduceSub, Nat.reduceLT, Nat.reduceLeDiff, List.map_cons, List.map_nil, List.replicate, List.cons_append, List.nil_append, List.append_nil, outsOf, wipeE, backE, ownIx, putOuts, Option.toList, It.lk, Es.lk, items_l, items_t, slR_e, sl_t, sl_l, if_true, if_false, Bool.false_eq_true, Bool.true_and, Bool.and_true, Bool.not_true, Bool.not_false, Option.map_some, decide_true, decide_false, q_tup, q_lst, p_add, p_sub, p_mul, p_mod, p_div, p_pow18, p_lt, p_le, p_gt, p_ge, p_eq, p_ne, p_ixL, p_ixT, p_neg, p_lenL, p_lenT, p_int, p_intB, p_abs, p_min, p_max, p_tupL, p_tupT, p_listL, p_listT, p_dic]
  refine wp_ix (NoC ls) ?_ (by exact hq3) fun d hd => ?_
  · have kw : pairK w = true := by
      unfold pairK
      rw [hw.1, hw.2.1]; rfl
    have kp : ∀ x : D, known x = true → pairK (.tup [w, x]) = true ∧ pairK (.tup [x, w]) = true := fun x hx => by
      unfold pairK tupI
      simp only [List.all_cons, List.all_nil, hx, hw.1]
      exact ⟨rfl, rfl⟩
    have hlen : ((toI ls).length : Int) = (ls.length : Int) := by rw [toI_len]
    have hib : idxB (.int (b : Int)) ((toI ls).length : Int) = true := by rw [hlen]; exact idx_nat hb'
    have hg : (toI ls).getD (b : Int).toNat 0 = ((ls.getD b 0 : Nat) : Int) := by rw [Int.toNat_natCast, toI_get]
    intro x hx
    simp only [List.mem_cons, List.mem_nil_iff, or_false] at hx
    rcases hx with rfl | rfl | rfl | rfl | rfl | rfl | rfl | rfl | rfl | rfl | rfl | rfl | rfl
    · refine ⟨rfl, ?_⟩
      rw [carryB_2, roomB_2]
      show ((_ && idxB _ ((toI ls).getD (b : Int).toNat 0)) && _) = false
      rw [hg, idx_self, Bool.and_false, Bool.false_and]
    · refine ⟨rfl, ?_⟩
      rw [carryB_2, roomB_2]
      show ((_ && idxB (.int (-1)) _) && _) = false
      rw [idx_neg, Bool.and_false, Bool.false_and]
    · refine ⟨?_, ?_⟩
      · show (true && (([D.tup [D.int b, D.int 0], w] : List D).all pairK)) = true
        rw [List.all_cons, List.all_cons, kw]; rfl
      · rw [carryB_2, hlen, hw.2.2, Bool.and_false]
    · refine ⟨?_, ?_⟩
      · show (true && (([D.tup [w, D.int 0], D.int 0] : List D).all pairK)) = true
        rw [List.all_cons, (kp (.int 0) rfl).1]; rfl
      · rw [carryB_2, roomB_2, hlen, hw.2.2, Bool.false_and, Bool.false_and]
    · exact ⟨rfl, rfl⟩
    · exact ⟨rfl, rfl⟩
    · exact ⟨rfl, rfl⟩
    · refine ⟨rfl, ?_⟩
      rw [carryB_2, roomB_2]
      show ((_ && false) && _) = false
      rw [Bool.and_false, Bool.false_and]
    · exact ⟨rfl, rfl⟩
    · exact ⟨rfl, rfl⟩
    · exact ⟨rfl, rfl⟩
    · exact ⟨rfl, rfl⟩
    · exact ⟨rfl, rfl⟩
  · simp only [wp_ok, wp_ex, wp_bind, bnd_ok, bnd_ex, bl_bind, boolR_b, cond_t, cond_f, e_cst, e_var, varR_d, someR_s, e_prim, e_sl, e_slv, e_and, e_or, e_one, e_not, e_tru, e_ife, e_chain, e_call, e_lc, e_pop, s_nil, s_cons, o_no, o_yes, intR_i, pt_no, pt_yes, es_nil, es_val, es_vw, a_nil, a_val, a_vw, it_seq, it_rng, it_enum, opd_n, opd_s, t_set, t_unp, t_par, t_setIx, ownR_l, valR_d, t_aug, t_exp, t_app, frzR_s, t_frz, setS_lt, t_ife, t_ret, t_mov, t_retN, t_brk, t_cnt, t_pass, t_rais, t_tr, wp_try, h_nil, h_cons, then_nx, then_rt, then_bk, then_ct, b_nil, b_cons, after_nx, after_ct, after_bk, after_rt, after_no, after_so, fin_qn, fin_qr, so_vw, so_cst, so_var, so_glob, so_prim, so_sl, so_and, so_or, so_not, so_ife, so_one, so_tru, so_chain, so_call, so_lc, so_pop, snap_d, snap_l, Option.isSome_some, List.getD_cons_zero, List.getD_cons_succ, List.set_cons_zero, List.set_cons_succ, List.length_cons, List.length_nil, Nat.reduceAdd, Nat.reduceSub, Nat.reduceLT, Nat.reduceLeDiff, List.map_cons, List.map_nil, List.replicate, List.cons_append, List.nil_append, List.append_nil, outsOf, wipeE, backE, ownIx, putOuts, Option.toList, It.lk, Es.lk, items_l, items_t, slR_e, sl_t, sl_l, if_true, if_false, Bool.false_eq_true, Bool.true_and, Bool.and_true, Bool.not_true, Bool.not_false, Option.map_some, decide_true, decide_false, q_tup, q_lst, p_add, p_sub, p_mul, p_mod, p_div, p_pow18, p_lt, p_le, p_gt, p_ge, p_eq, p_ne, p_ixL, p_ixT, p_neg, p_lenL, p_lenT, p_int, p_intB, p_abs, p_min, p_max, p_tupL, p_tupT, p_listL, p_listT, p_dic]
    exact hq d d3 hd h3
end W

set_option maxHeartbeats 8000000
namespace W
open AM PySem
theorem ne_holding : primF (.cmp .NotEq) [.str "holding", .str "holding"] = some (.d (.bl false)) := ne_self (n := 0) (sh_st (by decide +kernel)) (by decide)
theorem ne_belt : primF (.cmp .NotEq) [.str "belt", .str "belt"] = some (.d (.bl false)) := ne_self (n := 0) (sh_st (by decide +kernel)) (by decide)
theorem ne_let : primF (.cmp .NotEq) [.str "let", .str "let"] = some (.d (.bl false)) := ne_self (n := 0) (sh_st (by decide +kernel)) (by decide)
theorem eq_let : primF (.cmp .Eq) [.str "let", .str "let"] = some (.d (.bl true)) := eq_self (n := 0) (sh_st (by decide +kernel)) (by decide)
theorem ne_carries : primF (.cmp .NotEq) [.str "carries", .str "carries"] = some (.d (.bl false)) := ne_self (n := 0) (sh_st (by decide +kernel)) (by decide)
theorem w_lengths {k i : Nat} {ds : List D} {env : AM.Env} {Q : T → AM.Env → Prop} {E : X → AM.Env → Prop} (h : Die ds) (hq : ∀ (ls : List Nat) (ds' : List D), lenB (toI ls) = true → Die ds' → Q (.d (.tup ((toI ls).map .int))) (env.set i (some (.l ds')))) : (callK ⟨P.call (k + 2), P.io, P.glob⟩ 14 [some i, none, none] [.l ds, .d (.int 1), .d (.int 12)] env).wp Q E := by
  obtain ⟨ls, ds', h1, h2, e⟩ := law_lengths_ok k h
  exact wp_chg e rfl rfl (hq ls ds' h1 h2)
theorem w_room {k i : Nat} {ls : List Nat} (hls : lenB (toI ls) = true) {ds : List D} {env : AM.Env} {Q : T → AM.Env → Prop} {E : X → AM.Env → Prop} (h : Die ds) (hq : ∀ (a b : Nat) (ds' : List D), a < ls.length → b < ls.getD a 0 → Die ds' → Q (.d (.tup [.int a, .int b])) (env.set i (some (.l ds')))) : (callK ⟨P.call (k + 2), P.io, P.glob⟩ 15 [some i, none] [.l ds, .d (.tup ((toI ls).map .int))] env).wp Q E := by
  obtain ⟨a, b, ds', h1, h2, h3, e⟩ := law_room_ok k hls h
  exact wp_chg e rfl rfl (hq a b ds' h1 h2 h3)
def big20 : Int := 100000000000000000000
theorem p_pow20 : primF (.bin .Pow) [.int 10, .int 20] = some (.d (.int big20)) := by
  rw [p_pow, if_pos (by decide)]
  rfl
def c00 : D := .tup [.tup [.int 0, .int 0], .int 0]
def many (n : Nat) : List D := List.replicate n c00
theorem mul_many (n : Nat) (h : n ≤ 2000) : primF (.bin .Mult) [.lst [.tup [.tup [.int 0, .int 0], .int 0]], .int (n : Int)] = some (.l (many n)) := by
  rw [p_mulL, if_pos]
  · rw [Int.toNat_natCast]
    show some (T.l (List.replicate n [c00]).flatten) = _
    rw [List.flatten_replicate_singleton]
    rfl
  · refine ⟨by omega, by omega, small_le ?_⟩
    rw [Int.toNat_natCast, List.length_singleton]
    omega
def NoCs (ls : List Nat) (d : D) : Prop := carK d = true ∧ carB (toI ls) d = false
theorem pow20_big {ls : List Nat} (h : ls.length ≤ 6) : idxB (.int big20) (ls.length : Int) = false := by
  show (decide ((0 : Int) ≤ big20) && decide (big20 < (ls.length : Int))) = false
  rw [decide_eq_false (show ¬ (big20 < (ls.length : Int)) by unfold big20; omega), Bool.and_false]
theorem many_no (ls : List Int) {xs : List D} {y : D} (hy : y ∈ xs) (h : carryB ls y = false) : manyB ls xs = false := by
  unfold manyB
  have : xs.all (carryB ls) = false := by
    rw [Bool.eq_false_iff]
    intro z
    rw [List.all_eq_true.mp z y hy] at h
    cases h
  rw [this, Bool.and_false]
theorem cDs_K (cs : List Cy) : (cs.map cD).all carryK = true := List.all_eq_true.mpr fun x hx => by
  obtain ⟨c, _, rfl⟩ := List.mem_map.mp hx
  exact cD_known c
theorem turn21 (ns : List Int) {ls : List Nat} (hls : lenB (toI ls) = true) {rows : List (List D)} (g : GR ls rows) {d2 : List D} (h2 : Die d2) (x4 x5 x6 x7 x8 x9 xa xb : Option T) {Q : Fl → AM.Env → Prop} {E : X → AM.Env → Prop}
    (hq : ∀ (d3 : List D) (y5 y6 y7 y8 y9 ya : Option T), Die d3 → Q .nx [some (.d (.lst (ns.map .int))), some (.l d3), some (.d (.tup ((toI ls).map .int))), some (.d (hold rows)), x4, y5, y6, y7, y8, y9, ya, xb]) :
    (evSs ⟨P.call 8, P.io, P.glob⟩ P.isa b_law_0 [some (.d (.lst (ns.map .int))), some (.l d2), some (.d (.tup ((toI ls).map .int))), some (.d (hold rows)), x4, x5, x6, x7, x8, x9, xa, xb]).wp Q E := by
  obtain ⟨f1, f2, f3⟩ := lenB_facts hls
  have hln : (((toI ls).map D.int).length : Int) = (ls.length : Int) := by rw [List.length_map, toI_len]
  simp only [b_law_0, wp_ok, wp_ex, wp_bind, bnd_ok, bnd_ex, bl_bind, boolR_b, cond_t, cond_f, e_cst, e_var, varR_d, someR_s, e_prim, e_sl, e_slv, e_and, e_or, e_one, e_not, e_tru, e_ife, e_chain, e_call, e_lc, e_pop, s_nil, s_cons, o_no, o_yes, intR_i, pt_no, pt_yes, es_nil, es_val, es_vw, a_nil, a_val, a_vw, it_seq, it_rng, it_enum, opd_n, opd_s, t_set, t_unp, t_par, t_setIx, ownR_l, valR_d, t_aug, t_exp, t_app, frzR_s, t_frz, setS_lt, t_ife, t_ret, t_mov, t_retN, t_brk, t_cnt, t_pass, t_rais, t_tr, wp_try, h_nil, h_cons, then_nx, then_rt, then_bk, then_ct, b_nil, b_cons, after_nx, after_ct, after_bk, after_rt, after_no, after_so, fin_qn, fin_qr, so_vw, so_cst, so_var, so_glob, so_prim, so_sl, so_and, so_or, so_not, so_ife, so_one, so_tru, so_chain, so_call, so_lc, so_pop, snap_d, snap_l, Option.isSome_some, List.getD_cons_zero, List.getD_cons_succ, List.set_cons_zero, List.set_cons_succ, List.length_cons, List.length_nil, Nat.reduceAdd, Nat.reduceSub, Nat.reduceLT, Nat.reduceLeDiff, List.map_cons, List.map_nil, List.replicate, List.cons_append, List.nil_append, List.append_nil, outsOf, wipeE, backE, ownIx, putOuts, Option.toList, It.lk, Es.lk, items_l, items_t, slR_e, sl_t, sl_l, if_true, if_false, Bool.false_eq_true, Bool.true_and, Bool.and_true, Bool.not_true, Bool.not_false, Option.map_some, decide_true, decide_false, q_tup, q_lst, p_add, p_sub, p_mul, p_mod, p_div, p_pow18, p_lt, p_le, p_gt, p_ge, p_eq, p_ne, p_ixL, p_ixT, p_neg, p_lenL, p_lenT, p_int, p_intB, p_abs, p_min, p_max, p_tupL, p_tupT, p_listL, p_listT, p_dic]
  refine w_noh g h2 fun d d3 hd h3 => ?_
  simp only [wp_ok, wp_ex, wp_bind, bnd_ok, bnd_ex, bl_bind, boolR_b, cond_t, cond_f, e_cst, e_var, varR_d, someR_s, e_prim, e_sl, e_slv, e_and, e_or, e_one, e_not, e_tru, e_ife, e_chain, e_call, e_lc, e_pop, s_nil, s_cons, o_no, o_yes, intR_i, pt_no, pt_yes, es_nil, es_val, es_vw, a_nil, a_val, a_vw, it_seq, it_rng, it_enum, opd_n, opd_s, t_set, t_unp, t_par, t_setIx, ownR_l, valR_d, t_aug, t_exp, t_app, frzR_s, t_frz, setS_lt, t_ife, t_ret, t_mov, t_retN, t_brk, t_cnt, t_pass, t_rais, t_tr, wp_try, h_nil, h_cons, then_nx, then_rt, then_bk, then_ct, b_nil, b_cons, after_nx, after_ct, after_bk, after_rt, after_no, after_so, fin_qn, fin_qr, so_vw, so_cst, so_var, so_glob, so_prim, so_sl, so_and, so_or, so_not, so_ife, so_one, so_tru, so_chain, so_call, so_lc, so_pop, snap_d, snap_l, Option.isSome_some, List.getD_cons_zero, List.getD_cons_succ, List.set_cons_zero, List.set_cons_succ, List.length_cons, List.length_nil, Nat.reduceAdd, Nat.reduceSub, Nat.reduceLT, Nat.reduceLeDiff, List.map_cons, List.map_nil, List.replicate, List.cons_append, List.nil_append, List.append_nil, outsOf, wipeE, backE, ownIx, putOuts, Option.toList, It.lk, Es.lk, items_l, items_t, slR_e, sl_t, sl_l, if_true, if_false, Bool.false_eq_true, Bool.true_and, Bool.and_true, Bool.not_true, Bool.not_false, Option.map_some, decide_true, decide_false, q_tup, q_lst, p_add, p_sub, p_mul, p_mod, p_div, p_pow18, p_lt, p_le, p_gt, p_ge, p_eq, p_ne, p_ixL, p_ixT, p_neg, p_lenL, p_lenT, p_int, p_intB, p_abs, p_min, p_max, p_tupL, p_tupT, p_listL, p_listT, p_dic]
  refine wp_pure (put_bad 3 hd.1 hd.2) rfl rfl ?_
  simp only [ne_holding, wp_ok, wp_ex, wp_bind, bnd_ok, bnd_ex, bl_bind, boolR_b, cond_t, cond_f, e_cst, e_var, varR_d, someR_s, e_prim, e_sl, e_slv, e_and, e_or, e_one, e_not, e_tru, e_ife, e_chain, e_call, e_lc, e_pop, s_nil, s_cons, o_no, o_yes, intR_i, pt_no, pt_yes, es_nil, es_val, es_vw, a_nil, a_val, a_vw, it_seq, it_rng, it_enum, opd_n, opd_s, t_set, t_unp, t_par, t_setIx, ownR_l, valR_d, t_aug, t_exp, t_app, frzR_s, t_frz, setS_lt, t_ife, t_ret, t_mov, t_retN, t_brk, t_cnt, t_pass, t_rais, t_tr, wp_try, h_nil, h_cons, then_nx, then_rt, then_bk, then_ct, b_nil, b_cons, after_nx, after_ct, after_bk, after_rt, after_no, after_so, fin_qn, fin_qr, so_vw, so_cst, so_var, so_glob, so_prim, so_sl, so_and, so_or, so_not, so_ife, so_one, so_tru, so_chain, so_call, so_lc, so_pop, snap_d, snap_l, Option.isSome_some, List.getD_cons_zero, List.getD_cons_succ, List.set_cons_zero, List.set_cons_succ, List.length_cons, List.length_nil, Nat.reduceAdd, Nat.reduceSub, Nat.reduceLT, Nat.reduceLeDiff, List.map_cons, List.map_nil, List.replicate, List.cons_append, List.nil_append, List.append_nil, outsOf, wipeE, backE, ownIx, putOuts, Option.toList, It.lk, Es.lk, items_l, items_t, slR_e, sl_t, sl_l, if_true, if_false, Bool.false_eq_true, Bool.true_and, Bool.and_true, Bool.not_true, Bool.not_false, Option.map_some, decide_true, decide_false, q_tup, q_lst, p_add, p_sub, p_mul, p_mod, p_div, p_pow18, p_lt, p_le, p_gt, p_ge, p_eq, p_ne, p_ixL, p_ixT, p_neg, p_lenL, p_lenT, p_int, p_intB, p_abs, p_min, p_max, p_tupL, p_tupT, p_listL, p_listT, p_dic]
  refine wp_pure (carried_bad 3 hd.1 hd.2) rfl rfl ?_
  simp only [ne_holding, p_pow20, hln, wp_ok, wp_ex, wp_bind, bnd_ok, bnd_ex, bl_bind, boolR_b, cond_t, cond_f, e_cst, e_var, varR_d, someR_s, e_prim, e_sl, e_slv, e_and, e_or, e_one, e_not, e_tru, e_ife, e_chain, e_call, e_lc, e_pop, s_nil, s_cons, o_no, o_yes, intR_i, pt_no, pt_yes, es_nil, es_val, es_vw, a_nil, a_val, a_vw, it_seq, it_rng, it_enum, opd_n, opd_s, t_set, t_unp, t_par, t_setIx, ownR_l, valR_d, t_aug, t_exp, t_app, frzR_s, t_frz, setS_lt, t_ife, t_ret, t_mov, t_retN, t_brk, t_cnt, t_pass, t_rais, t_tr, wp_try, h_nil, h_cons, then_nx, then_rt, then_bk, then_ct, b_nil, b_cons, after_nx, after_ct, after_bk, after_rt, after_no, after_so, fin_qn, fin_qr, so_vw, so_cst, so_var, so_glob, so_prim, so_sl, so_and, so_or, so_not, so_ife, so_one, so_tru, so_chain, so_call, so_lc, so_pop, snap_d, snap_l, Option.isSome_some, List.getD_cons_zero, List.getD_cons_succ, List.set_cons_zero, List.set_cons_succ, List.length_cons, List.length_nil, Nat.reduceAdd, Nat.reduceSub, Nat.reduceLT, Nat.reduceLeDiff, List.map_cons, List.map_nil, List.replicate, List.cons_append, List.nil_append, List.append_nil, outsOf, wipeE, backE, ownIx, putOuts, Option.toList, It.lk, Es.lk, items_l, items_t, slR_e, sl_t, sl_l, if_true, if_false, Bool.false_eq_true, Bool.true_and, Bool.and_true, Bool.not_true, Bool.not_false, Option.map_some, decide_true, decide_false, q_tup, q_lst, p_add, p_sub, p_mul, p_mod, p_div, p_pow18, p_lt, p_le, p_gt, p_ge, p_eq, p_ne, p_ixL, p_ixT, p_neg, p_lenL, p_lenT, p_int, p_intB, p_abs, p_min, p_max, p_tupL, p_tupT, p_listL, p_listT, p_dic]
  refine w_draw (n := 9) h3 (by decide) (by decide) fun r d4 hr h4 => ?_
  simp only [wp_ok, wp_ex, wp_bind, bnd_ok, bnd_ex, bl_bind, boolR_b, cond_t, cond_f, e_cst, e_var, varR_d, someR_s, e_prim, e_sl, e_slv, e_and, e_or, e_one, e_not, e_tru, e_ife, e_chain, e_call, e_lc, e_pop, s_nil, s_cons, o_no, o_yes, intR_i, pt_no, pt_yes, es_nil, es_val, es_vw, a_nil, a_val, a_vw, it_seq, it_rng, it_enum, opd_n, opd_s, t_set, t_unp, t_par, t_setIx, ownR_l, valR_d, t_aug, t_exp, t_app, frzR_s, t_frz, setS_lt, t_ife, t_ret, t_mov, t_retN, t_brk, t_cnt, t_pass, t_rais, t_tr, wp_try, h_nil, h_cons, then_nx, then_rt, then_bk, then_ct, b_nil, b_cons, after_nx, after_ct, after_bk, after_rt, after_no, after_so, fin_qn, fin_qr, so_vw, so_cst, so_var, so_glob, so_prim, so_sl, so_and, so_or, so_not, so_ife, so_one, so_tru, so_chain, so_call, so_lc, so_pop, snap_d, snap_l, Option.isSome_some, List.getD_cons_zero, List.getD_cons_succ, List.set_cons_zero, List.set_cons_succ, List.length_cons, List.length_nil, Nat.reduceAdd, Nat.reduceSub, Nat.reduceLT, Nat.reduceLeDiff, List.map_cons, List.map_nil, List.replicate, List.cons_append, List.nil_append, List.append_nil, outsOf, wipeE, backE, ownIx, putOuts, Option.toList, It.lk, Es.lk, items_l, items_t, slR_e, sl_t, sl_l, if_true, if_false, Bool.false_eq_true, Bool.true_and, Bool.and_true, Bool.not_true, Bool.not_false, Option.map_some, decide_true, decide_false, q_tup, q_lst, p_add, p_sub, p_mul, p_mod, p_div, p_pow18, p_lt, p_le, p_gt, p_ge, p_eq, p_ne, p_ixL, p_ixT, p_neg, p_lenL, p_lenT, p_int, p_intB, p_abs, p_min, p_max, p_tupL, p_tupT, p_listL, p_listT, p_dic]
  refine wp_ix (fun x => known x = true ∧ idxB x (ls.length : Nat) = false) ?_ (by exact hr) fun w hw => ?_
  · intro x hx
    simp only [List.mem_cons, List.mem_nil_iff, or_false] at hx
    rcases hx with rfl | rfl | rfl | rfl | rfl | rfl | rfl | rfl | rfl
    · exact ⟨rfl, idx_self _⟩
    · exact ⟨rfl, rfl⟩
    · exact ⟨rfl, rfl⟩
    · exact ⟨rfl, rfl⟩
    · exact ⟨rfl, rfl⟩
    · exact ⟨rfl, rfl⟩
    · exact ⟨rfl, rfl⟩
    · exact ⟨rfl, pow20_big f2⟩
    · exact ⟨rfl, rfl⟩
  simp only [wp_ok, wp_ex, wp_bind, bnd_ok, bnd_ex, bl_bind, boolR_b, cond_t, cond_f, e_cst, e_var, varR_d, someR_s, e_prim, e_sl, e_slv, e_and, e_or, e_one, e_not, e_tru, e_ife, e_chain, e_call, e_lc, e_pop, s_nil, s_cons, o_no, o_yes, intR_i, pt_no, pt_yes, es_nil, es_val, es_vw, a_nil, a_val, a_vw, it_seq, it_rng, it_enum, opd_n, opd_s, t_set, t_unp, t_par, t_setIx, ownR_l, valR_d, t_aug, t_exp, t_app, frzR_s, t_frz, setS_lt, t_ife, t_ret, t_mov, t_retN, t_brk, t_cnt, t_pass, t_rais, t_tr, wp_try, h_nil, h_cons, then_nx, then_rt, then_bk, then_ct, b_nil, b_cons, after_nx, after_ct, after_bk, after_rt, after_no, after_so, fin_qn, fin_qr, so_vw, so_cst, so_var, so_glob, so_prim, so_sl, so_and, so_or, so_not, so_ife, so_one, so_tru, so_chain, so_call, so_lc, so_pop, snap_d, snap_l, Option.isSome_some, List.getD_cons_zero, List.getD_cons_succ, List.set_cons_zero, List.set_cons_succ, List.length_cons, List.length_nil, Nat.reduceAdd, Nat.reduceSub, Nat.reduceLT, Nat.reduceLeDiff, List.map_cons, List.map_nil, List.replicate, List.cons_append, List.nil_append, List.append_nil, outsOf, wipeE, backE, ownIx, putOuts, Option.toList, It.lk, Es.lk, items_l, items_t, slR_e, sl_t, sl_l, if_true, if_false, Bool.false_eq_true, Bool.true_and, Bool.and_true, Bool.not_true, Bool.not_false, Option.map_some, decide_true, decide_false, q_tup, q_lst, p_add, p_sub, p_mul, p_mod, p_div, p_pow18, p_lt, p_le, p_gt, p_ge, p_eq, p_ne, p_ixL, p_ixT, p_neg, p_lenL, p_lenT, p_int, p_intB, p_abs, p_min, p_max, p_tupL, p_tupT, p_listL, p_listT, p_dic]
  refine wp_pure (put_belt 3 g hw.1 hw.2) rfl rfl ?_
  simp only [ne_belt, hln, wp_ok, wp_ex, wp_bind, bnd_ok, bnd_ex, bl_bind, boolR_b, cond_t, cond_f, e_cst, e_var, varR_d, someR_s, e_prim, e_sl, e_slv, e_and, e_or, e_one, e_not, e_tru, e_ife, e_chain, e_call, e_lc, e_pop, s_nil, s_cons, o_no, o_yes, intR_i, pt_no, pt_yes, es_nil, es_val, es_vw, a_nil, a_val, a_vw, it_seq, it_rng, it_enum, opd_n, opd_s, t_set, t_unp, t_par, t_setIx, ownR_l, valR_d, t_aug, t_exp, t_app, frzR_s, t_frz, setS_lt, t_ife, t_ret, t_mov, t_retN, t_brk, t_cnt, t_pass, t_rais, t_tr, wp_try, h_nil, h_cons, then_nx, then_rt, then_bk, then_ct, b_nil, b_cons, after_nx, after_ct, after_bk, after_rt, after_no, after_so, fin_qn, fin_qr, so_vw, so_cst, so_var, so_glob, so_prim, so_sl, so_and, so_or, so_not, so_ife, so_one, so_tru, so_chain, so_call, so_lc, so_pop, snap_d, snap_l, Option.isSome_some, List.getD_cons_zero, List.getD_cons_succ, List.set_cons_zero, List.set_cons_succ, List.length_cons, List.length_nil, Nat.reduceAdd, Nat.reduceSub, Nat.reduceLT, Nat.reduceLeDiff, List.map_cons, List.map_nil, List.replicate, List.cons_append, List.nil_append, List.append_nil, outsOf, wipeE, backE, ownIx, putOuts, Option.toList, It.lk, Es.lk, items_l, items_t, slR_e, sl_t, sl_l, if_true, if_false, Bool.false_eq_true, Bool.true_and, Bool.and_true, Bool.not_true, Bool.not_false, Option.map_some, decide_true, decide_false, q_tup, q_lst, p_add, p_sub, p_mul, p_mod, p_div, p_pow18, p_lt, p_le, p_gt, p_ge, p_eq, p_ne, p_ixL, p_ixT, p_neg, p_lenL, p_lenT, p_int, p_intB, p_abs, p_min, p_max, p_tupL, p_tupT, p_listL, p_listT, p_dic]
  refine w_draw (n := (ls.length : Int)) h4 (by omega) (by omega) fun b d5 hb h5 => ?_
  simp only [wp_ok, wp_ex, wp_bind, bnd_ok, bnd_ex, bl_bind, boolR_b, cond_t, cond_f, e_cst, e_var, varR_d, someR_s, e_prim, e_sl, e_slv, e_and, e_or, e_one, e_not, e_tru, e_ife, e_chain, e_call, e_lc, e_pop, s_nil, s_cons, o_no, o_yes, intR_i, pt_no, pt_yes, es_nil, es_val, es_vw, a_nil, a_val, a_vw, it_seq, it_rng, it_enum, opd_n, opd_s, t_set, t_unp, t_par, t_setIx, ownR_l, valR_d, t_aug, t_exp, t_app, frzR_s, t_frz, setS_lt, t_ife, t_ret, t_mov, t_retN, t_brk, t_cnt, t_pass, t_rais, t_tr, wp_try, h_nil, h_cons, then_nx, then_rt, then_bk, then_ct, b_nil, b_cons, after_nx, after_ct, after_bk, after_rt, after_no, after_so, fin_qn, fin_qr, so_vw, so_cst, so_var, so_glob, so_prim, so_sl, so_and, so_or, so_not, so_ife, so_one, so_tru, so_chain, so_call, so_lc, so_pop, snap_d, snap_l, Option.isSome_some, List.getD_cons_zero, List.getD_cons_succ, List.set_cons_zero, List.set_cons_succ, List.length_cons, List.length_nil, Nat.reduceAdd, Nat.reduceSub, Nat.reduceLT, Nat.reduceLeDiff, List.map_cons, List.map_nil, List.replicate, List.cons_append, List.nil_append, List.append_nil, outsOf, wipeE, backE, ownIx, putOuts, Option.toList, It.lk, Es.lk, items_l, items_t, slR_e, sl_t, sl_l, if_true, if_false, Bool.false_eq_true, Bool.true_and, Bool.and_true, Bool.not_true, Bool.not_false, Option.map_some, decide_true, decide_false, q_tup, q_lst, p_add, p_sub, p_mul, p_mod, p_div, p_pow18, p_lt, p_le, p_gt, p_ge, p_eq, p_ne, p_ixL, p_ixT, p_neg, p_lenL, p_lenT, p_int, p_intB, p_abs, p_min, p_max, p_tupL, p_tupT, p_listL, p_listT, p_dic]
  refine wp_pure (put_let 3 g (b := b) (by omega)) rfl rfl ?_
  simp only [ne_let, wp_ok, wp_ex, wp_bind, bnd_ok, bnd_ex, bl_bind, boolR_b, cond_t, cond_f, e_cst, e_var, varR_d, someR_s, e_prim, e_sl, e_slv, e_and, e_or, e_one, e_not, e_tru, e_ife, e_chain, e_call, e_lc, e_pop, s_nil, s_cons, o_no, o_yes, intR_i, pt_no, pt_yes, es_nil, es_val, es_vw, a_nil, a_val, a_vw, it_seq, it_rng, it_enum, opd_n, opd_s, t_set, t_unp, t_par, t_setIx, ownR_l, valR_d, t_aug, t_exp, t_app, frzR_s, t_frz, setS_lt, t_ife, t_ret, t_mov, t_retN, t_brk, t_cnt, t_pass, t_rais, t_tr, wp_try, h_nil, h_cons, then_nx, then_rt, then_bk, then_ct, b_nil, b_cons, after_nx, after_ct, after_bk, after_rt, after_no, after_so, fin_qn, fin_qr, so_vw, so_cst, so_var, so_glob, so_prim, so_sl, so_and, so_or, so_not, so_ife, so_one, so_tru, so_chain, so_call, so_lc, so_pop, snap_d, snap_l, Option.isSome_some, List.getD_cons_zero, List.getD_cons_succ, List.set_cons_zero, List.set_cons_succ, List.length_cons, List.length_nil, Nat.reduceAdd, Nat.reduceSub, Nat.reduceLT, Nat.reduceLeDiff, List.map_cons, List.map_nil, List.replicate, List.cons_append, List.nil_append, List.append_nil, outsOf, wipeE, backE, ownIx, putOuts, Option.toList, It.lk, Es.lk, items_l, items_t, slR_e, sl_t, sl_l, if_true, if_false, Bool.false_eq_true, Bool.true_and, Bool.and_true, Bool.not_true, Bool.not_false, Option.map_some, decide_true, decide_false, q_tup, q_lst, p_add, p_sub, p_mul, p_mod, p_div, p_pow18, p_lt, p_le, p_gt, p_ge, p_eq, p_ne, p_ixL, p_ixT, p_neg, p_lenL, p_lenT, p_int, p_intB, p_abs, p_min, p_max, p_tupL, p_tupT, p_listL, p_listT, p_dic]
  refine w_draw (n := 5) h5 (by decide) (by decide) fun m d6 hm h6 => ?_
  simp only [rng_to _ (show m ≤ 1000000 by omega), wp_ok, wp_ex, wp_bind, bnd_ok, bnd_ex, bl_bind, boolR_b, cond_t, cond_f, e_cst, e_var, varR_d, someR_s, e_prim, e_sl, e_slv, e_and, e_or, e_one, e_not, e_tru, e_ife, e_chain, e_call, e_lc, e_pop, s_nil, s_cons, o_no, o_yes, intR_i, pt_no, pt_yes, es_nil, es_val, es_vw, a_nil, a_val, a_vw, it_seq, it_rng, it_enum, opd_n, opd_s, t_set, t_unp, t_par, t_setIx, ownR_l, valR_d, t_aug, t_exp, t_app, frzR_s, t_frz, setS_lt, t_ife, t_ret, t_mov, t_retN, t_brk, t_cnt, t_pass, t_rais, t_tr, wp_try, h_nil, h_cons, then_nx, then_rt, then_bk, then_ct, b_nil, b_cons, after_nx, after_ct, after_bk, after_rt, after_no, after_so, fin_qn, fin_qr, so_vw, so_cst, so_var, so_glob, so_prim, so_sl, so_and, so_or, so_not, so_ife, so_one, so_tru, so_chain, so_call, so_lc, so_pop, snap_d, snap_l, Option.isSome_some, List.getD_cons_zero, List.getD_cons_succ, List.set_cons_zero, List.set_cons_succ, List.length_cons, List.length_nil, Nat.reduceAdd, Nat.reduceSub, Nat.reduceLT, Nat.reduceLeDiff, List.map_cons, List.map_nil, List.replicate, List.cons_append, List.nil_append, List.append_nil, outsOf, wipeE, backE, ownIx, putOuts, Option.toList, It.lk, Es.lk, items_l, items_t, slR_e, sl_t, sl_l, if_true, if_false, Bool.false_eq_true, Bool.true_and, Bool.and_true, Bool.not_true, Bool.not_false, Option.map_some, decide_true, decide_false, q_tup, q_lst, p_add, p_sub, p_mul, p_mod, p_div, p_pow18, p_lt, p_le, p_gt, p_ge, p_eq, p_ne, p_ixL, p_ixT, p_neg, p_lenL, p_lenT, p_int, p_intB, p_abs, p_min, p_max, p_tupL, p_tupT, p_listL, p_listT, p_dic]
  refine wp_lc (fun n acc env => ∃ (d3 : List D) (cs : List Cy), Die d3 ∧ acc = cs.map cD ∧ cs.length = n ∧ (∀ c ∈ cs, c.ok ls) ∧ env = [some (.d (.lst (ns.map .int))), some (.l d3), some (.d (.tup ((toI ls).map .int))), some (.d (hold rows)), x4, some (.d d), some (.d w), x7, x8, x9, xa, none]) ⟨d6, [], h6, rfl, rfl, (fun c hc => by simp at hc), rfl⟩ ?_ ?_
  · rintro out env ⟨d7, cs, h7, rfl, hl, hc, rfl⟩
    rw [List.length_map, List.length_range] at hl
    have hcl : ((cs.map cD).length : Int) = (m : Int) := by rw [List.length_map, hl]
    simp only [hcl, wp_ok, wp_ex, wp_bind, bnd_ok, bnd_ex, bl_bind, boolR_b, cond_t, cond_f, e_cst, e_var, varR_d, someR_s, e_prim, e_sl, e_slv, e_and, e_or, e_one, e_not, e_tru, e_ife, e_chain, e_call, e_lc, e_pop, s_nil, s_cons, o_no, o_yes, intR_i, pt_no, pt_yes, es_nil, es_val, es_vw, a_nil, a_val, a_vw, it_seq, it_rng, it_enum, opd_n, opd_s, t_set, t_unp, t_par, t_setIx, ownR_l, valR_d, t_aug, t_exp, t_app, frzR_s, t_frz, setS_lt, t_ife, t_ret, t_mov, t_retN, t_brk, t_cnt, t_pass, t_rais, t_tr, wp_try, h_nil, h_cons, then_nx, then_rt, then_bk, then_ct, b_nil, b_cons, after_nx, after_ct, after_bk, after_rt, after_no, after_so, fin_qn, fin_qr, so_vw, so_cst, so_var, so_glob, so_prim, so_sl, so_and, so_or, so_not, so_ife, so_one, so_tru, so_chain, so_call, so_lc, so_pop, snap_d, snap_l, Option.isSome_some, List.getD_cons_zero, List.getD_cons_succ, List.set_cons_zero, List.set_cons_succ, List.length_cons, List.length_nil, Nat.reduceAdd, Nat.reduceSub, Nat.reduceLT, Nat.reduceLeDiff, List.map_cons, List.map_nil, List.replicate, List.cons_append, List.nil_append, List.append_nil, outsOf, wipeE, backE, ownIx, putOuts, Option.toList, It.lk, Es.lk, items_l, items_t, slR_e, sl_t, sl_l, if_true, if_false, Bool.false_eq_true, Bool.true_and, Bool.and_true, Bool.not_true, Bool.not_false, Option.map_some, decide_true, decide_false, q_tup, q_lst, p_add, p_sub, p_mul, p_mod, p_div, p_pow18, p_lt, p_le, p_gt, p_ge, p_eq, p_ne, p_ixL, p_ixT, p_neg, p_lenL, p_lenT, p_int, p_intB, p_abs, p_min, p_max, p_tupL, p_tupT, p_listL, p_listT, p_dic]
    refine w_draw (n := (m : Int) + 1) h7 (by omega) (by omega) fun s d8 hs h8 => ?_
    have c1 : cutG (cs.map cD) none (some (s : Int)) = (cs.take s).map cD := by rw [cut_to (by rw [List.length_map]; omega), List.map_take]
    have c2 : cutG (cs.map cD) (some (s : Int)) none = (cs.drop s).map cD := by rw [cut_from (by rw [List.length_map]; omega), List.map_drop]
    simp only [c1, c2, wp_ok, wp_ex, wp_bind, bnd_ok, bnd_ex, bl_bind, boolR_b, cond_t, cond_f, e_cst, e_var, varR_d, someR_s, e_prim, e_sl, e_slv, e_and, e_or, e_one, e_not, e_tru, e_ife, e_chain, e_call, e_lc, e_pop, s_nil, s_cons, o_no, o_yes, intR_i, pt_no, pt_yes, es_nil, es_val, es_vw, a_nil, a_val, a_vw, it_seq, it_rng, it_enum, opd_n, opd_s, t_set, t_unp, t_par, t_setIx, ownR_l, valR_d, t_aug, t_exp, t_app, frzR_s, t_frz, setS_lt, t_ife, t_ret, t_mov, t_retN, t_brk, t_cnt, t_pass, t_rais, t_tr, wp_try, h_nil, h_cons, then_nx, then_rt, then_bk, then_ct, b_nil, b_cons, after_nx, after_ct, after_bk, after_rt, after_no, after_so, fin_qn, fin_qr, so_vw, so_cst, so_var, so_glob, so_prim, so_sl, so_and, so_or, so_not, so_ife, so_one, so_tru, so_chain, so_call, so_lc, so_pop, snap_d, snap_l, Option.isSome_some, List.getD_cons_zero, List.getD_cons_succ, List.set_cons_zero, List.set_cons_succ, List.length_cons, List.length_nil, Nat.reduceAdd, Nat.reduceSub, Nat.reduceLT, Nat.reduceLeDiff, List.map_cons, List.map_nil, List.replicate, List.cons_append, List.nil_append, List.append_nil, outsOf, wipeE, backE, ownIx, putOuts, Option.toList, It.lk, Es.lk, items_l, items_t, slR_e, sl_t, sl_l, if_true, if_false, Bool.false_eq_true, Bool.true_and, Bool.and_true, Bool.not_true, Bool.not_false, Option.map_some, decide_true, decide_false, q_tup, q_lst, p_add, p_sub, p_mul, p_mod, p_div, p_pow18, p_lt, p_le, p_gt, p_ge, p_eq, p_ne, p_ixL, p_ixT, p_neg, p_lenL, p_lenT, p_int, p_intB, p_abs, p_min, p_max, p_tupL, p_tupT, p_listL, p_listT, p_dic]
    refine w_noc hls h8 fun bad d9 hbad h9 => ?_
    have hT : primF (.bin .Add) [.lst ((cs.take s).map cD), .lst [bad]] = some (.l ((cs.take s).map cD ++ [bad])) := q_addL _ _ (by rw [List.length_map, List.length_take, List.length_singleton]; omega)
    have hT2 : primF (.bin .Add) [.lst ((cs.take s).map cD ++ [bad]), .lst ((cs.drop s).map cD)] = some (.l ((cs.take s).map cD ++ [bad] ++ (cs.drop s).map cD)) := q_addL _ _ (by rw [List.length_append, List.length_map, List.length_map, List.length_take, List.length_drop, List.length_singleton]; omega)
    have bentK : ((cs.take s).map cD ++ [bad] ++ (cs.drop s).map cD).all carryK = true := by
      rw [List.all_append, List.all_append, cDs_K, cDs_K, List.all_cons, hbad.1]; rfl
    have bentB : manyB (toI ls) ((cs.take s).map cD ++ [bad] ++ (cs.drop s).map cD) = false := many_no _ mem_mid hbad.2
    simp only [c1, c2, hT, hT2, mul_many 1001 (by decide), wp_ok, wp_ex, wp_bind, bnd_ok, bnd_ex, bl_bind, boolR_b, cond_t, cond_f, e_cst, e_var, varR_d, someR_s, e_prim, e_sl, e_slv, e_and, e_or, e_one, e_not, e_tru, e_ife, e_chain, e_call, e_lc, e_pop, s_nil, s_cons, o_no, o_yes, intR_i, pt_no, pt_yes, es_nil, es_val, es_vw, a_nil, a_val, a_vw, it_seq, it_rng, it_enum, opd_n, opd_s, t_set, t_unp, t_par, t_setIx, ownR_l, valR_d, t_aug, t_exp, t_app, frzR_s, t_frz, setS_lt, t_ife, t_ret, t_mov, t_retN, t_brk, t_cnt, t_pass, t_rais, t_tr, wp_try, h_nil, h_cons, then_nx, then_rt, then_bk, then_ct, b_nil, b_cons, after_nx, after_ct, after_bk, after_rt, after_no, after_so, fin_qn, fin_qr, so_vw, so_cst, so_var, so_glob, so_prim, so_sl, so_and, so_or, so_not, so_ife, so_one, so_tru, so_chain, so_call, so_lc, so_pop, snap_d, snap_l, Option.isSome_some, List.getD_cons_zero, List.getD_cons_succ, List.set_cons_zero, List.set_cons_succ, List.length_cons, List.length_nil, Nat.reduceAdd, Nat.reduceSub, Nat.reduceLT, Nat.reduceLeDiff, List.map_cons, List.map_nil, List.replicate, List.cons_append, List.nil_append, List.append_nil, outsOf, wipeE, backE, ownIx, putOuts, Option.toList, It.lk, Es.lk, items_l, items_t, slR_e, sl_t, sl_l, if_true, if_false, Bool.false_eq_true, Bool.true_and, Bool.and_true, Bool.not_true, Bool.not_false, Option.map_some, decide_true, decide_false, q_tup, q_lst, p_add, p_sub, p_mul, p_mod, p_div, p_pow18, p_lt, p_le, p_gt, p_ge, p_eq, p_ne, p_ixL, p_ixT, p_neg, p_lenL, p_lenT, p_int, p_intB, p_abs, p_min, p_max, p_tupL, p_tupT, p_listL, p_listT, p_dic]
    generalize (cs.take s).map cD ++ [bad] ++ (cs.drop s).map cD = bent at bentK bentB
    have e1001 : primF (.bin .Mult) [.lst [.tup [.tup [.int 0, .int 0], .int 0]], .int 1001] = some (.l (many 1001)) := mul_many 1001 (by decide)
    simp only [e1001, wp_ok, wp_ex, wp_bind, bnd_ok, bnd_ex, bl_bind, boolR_b, cond_t, cond_f, e_cst, e_var, varR_d, someR_s, e_prim, e_sl, e_slv, e_and, e_or, e_one, e_not, e_tru, e_ife, e_chain, e_call, e_lc, e_pop, s_nil, s_cons, o_no, o_yes, intR_i, pt_no, pt_yes, es_nil, es_val, es_vw, a_nil, a_val, a_vw, it_seq, it_rng, it_enum, opd_n, opd_s, t_set, t_unp, t_par, t_setIx, ownR_l, valR_d, t_aug, t_exp, t_app, frzR_s, t_frz, setS_lt, t_ife, t_ret, t_mov, t_retN, t_brk, t_cnt, t_pass, t_rais, t_tr, wp_try, h_nil, h_cons, then_nx, then_rt, then_bk, then_ct, b_nil, b_cons, after_nx, after_ct, after_bk, after_rt, after_no, after_so, fin_qn, fin_qr, so_vw, so_cst, so_var, so_glob, so_prim, so_sl, so_and, so_or, so_not, so_ife, so_one, so_tru, so_chain, so_call, so_lc, so_pop, snap_d, snap_l, Option.isSome_some, List.getD_cons_zero, List.getD_cons_succ, List.set_cons_zero, List.set_cons_succ, List.length_cons, List.length_nil, Nat.reduceAdd, Nat.reduceSub, Nat.reduceLT, Nat.reduceLeDiff, List.map_cons, List.map_nil, List.replicate, List.cons_append, List.nil_append, List.append_nil, outsOf, wipeE, backE, ownIx, putOuts, Option.toList, It.lk, Es.lk, items_l, items_t, slR_e, sl_t, sl_l, if_true, if_false, Bool.false_eq_true, Bool.true_and, Bool.and_true, Bool.not_true, Bool.not_false, Option.map_some, decide_true, decide_false, q_tup, q_lst, p_add, p_sub, p_mul, p_mod, p_div, p_pow18, p_lt, p_le, p_gt, p_ge, p_eq, p_ne, p_ixL, p_ixT, p_neg, p_lenL, p_lenT, p_int, p_intB, p_abs, p_min, p_max, p_tupL, p_tupT, p_listL, p_listT, p_dic]
    refine w_draw (n := 8) h9 (by decide) (by decide) fun q da hq8 ha => ?_
    simp only [wp_ok, wp_ex, wp_bind, bnd_ok, bnd_ex, bl_bind, boolR_b, cond_t, cond_f, e_cst, e_var, varR_d, someR_s, e_prim, e_sl, e_slv, e_and, e_or, e_one, e_not, e_tru, e_ife, e_chain, e_call, e_lc, e_pop, s_nil, s_cons, o_no, o_yes, intR_i, pt_no, pt_yes, es_nil, es_val, es_vw, a_nil, a_val, a_vw, it_seq, it_rng, it_enum, opd_n, opd_s, t_set, t_unp, t_par, t_setIx, ownR_l, valR_d, t_aug, t_exp, t_app, frzR_s, t_frz, setS_lt, t_ife, t_ret, t_mov, t_retN, t_brk, t_cnt, t_pass, t_rais, t_tr, wp_try, h_nil, h_cons, then_nx, then_rt, then_bk, then_ct, b_nil, b_cons, after_nx, after_ct, after_bk, after_rt, after_no, after_so, fin_qn, fin_qr, so_vw, so_cst, so_var, so_glob, so_prim, so_sl, so_and, so_or, so_not, so_ife, so_one, so_tru, so_chain, so_call, so_lc, so_pop, snap_d, snap_l, Option.isSome_some, List.getD_cons_zero, List.getD_cons_succ, List.set_cons_zero, List.set_cons_succ, List.length_cons, List.length_nil, Nat.reduceAdd, Nat.reduceSub, Nat.reduceLT, Nat.reduceLeDiff, List.map_cons, List.map_nil, List.replicate, List.cons_append, List.nil_append, List.append_nil, outsOf, wipeE, backE, ownIx, putOuts, Option.toList, It.lk, Es.lk, items_l, items_t, slR_e, sl_t, sl_l, if_true, if_false, Bool.false_eq_true, Bool.true_and, Bool.and_true, Bool.not_true, Bool.not_false, Option.map_some, decide_true, decide_false, q_tup, q_lst, p_add, p_sub, p_mul, p_mod, p_div, p_pow18, p_lt, p_le, p_gt, p_ge, p_eq, p_ne, p_ixL, p_ixT, p_neg, p_lenL, p_lenT, p_int, p_intB, p_abs, p_min, p_max, p_tupL, p_tupT, p_listL, p_listT, p_dic]
    refine wp_ix (NoCs ls) ?_ (by exact hq8) fun th hth => ?_
    · intro x hx
      simp only [List.mem_cons, List.mem_nil_iff, or_false] at hx
      rcases hx with rfl | rfl | rfl | rfl | rfl | rfl | rfl | rfl
      · exact ⟨bentK, bentB⟩
      · exact ⟨bentK, bentB⟩
      · exact ⟨rfl, rfl⟩
      · exact ⟨rfl, rfl⟩
      · exact ⟨rfl, rfl⟩
      · exact ⟨rfl, rfl⟩
      · exact ⟨rfl, rfl⟩
      · refine ⟨?_, ?_⟩
        · show (true && (many 1001).all carryK) = true
          rw [Bool.true_and]
          exact List.all_eq_true.mpr fun x hx => by rw [(List.mem_replicate.mp hx).2]; rfl
        · show manyB (toI ls) (many 1001) = false
          unfold manyB many
          rw [List.length_replicate, decide_eq_false (by decide), Bool.false_and]
    simp only [wp_ok, wp_ex, wp_bind, bnd_ok, bnd_ex, bl_bind, boolR_b, cond_t, cond_f, e_cst, e_var, varR_d, someR_s, e_prim, e_sl, e_slv, e_and, e_or, e_one, e_not, e_tru, e_ife, e_chain, e_call, e_lc, e_pop, s_nil, s_cons, o_no, o_yes, intR_i, pt_no, pt_yes, es_nil, es_val, es_vw, a_nil, a_val, a_vw, it_seq, it_rng, it_enum, opd_n, opd_s, t_set, t_unp, t_par, t_setIx, ownR_l, valR_d, t_aug, t_exp, t_app, frzR_s, t_frz, setS_lt, t_ife, t_ret, t_mov, t_retN, t_brk, t_cnt, t_pass, t_rais, t_tr, wp_try, h_nil, h_cons, then_nx, then_rt, then_bk, then_ct, b_nil, b_cons, after_nx, after_ct, after_bk, after_rt, after_no, after_so, fin_qn, fin_qr, so_vw, so_cst, so_var, so_glob, so_prim, so_sl, so_and, so_or, so_not, so_ife, so_one, so_tru, so_chain, so_call, so_lc, so_pop, snap_d, snap_l, Option.isSome_some, List.getD_cons_zero, List.getD_cons_succ, List.set_cons_zero, List.set_cons_succ, List.length_cons, List.length_nil, Nat.reduceAdd, Nat.reduceSub, Nat.reduceLT, Nat.reduceLeDiff, List.map_cons, List.map_nil, List.replicate, List.cons_append, List.nil_append, List.append_nil, outsOf, wipeE, backE, ownIx, putOuts, Option.toList, It.lk, Es.lk, items_l, items_t, slR_e, sl_t, sl_l, if_true, if_false, Bool.false_eq_true, Bool.true_and, Bool.and_true, Bool.not_true, Bool.not_false, Option.map_some, decide_true, decide_false, q_tup, q_lst, p_add, p_sub, p_mul, p_mod, p_div, p_pow18, p_lt, p_le, p_gt, p_ge, p_eq, p_ne, p_ixL, p_ixT, p_neg, p_lenL, p_lenT, p_int, p_intB, p_abs, p_min, p_max, p_tupL, p_tupT, p_listL, p_listT, p_dic]
    refine wp_pure (carried_no 1 g hth.1 hth.2) rfl rfl ?_
    simp only [ne_carries, wp_ok, wp_ex, wp_bind, bnd_ok, bnd_ex, bl_bind, boolR_b, cond_t, cond_f, e_cst, e_var, varR_d, someR_s, e_prim, e_sl, e_slv, e_and, e_or, e_one, e_not, e_tru, e_ife, e_chain, e_call, e_lc, e_pop, s_nil, s_cons, o_no, o_yes, intR_i, pt_no, pt_yes, es_nil, es_val, es_vw, a_nil, a_val, a_vw, it_seq, it_rng, it_enum, opd_n, opd_s, t_set, t_unp, t_par, t_setIx, ownR_l, valR_d, t_aug, t_exp, t_app, frzR_s, t_frz, setS_lt, t_ife, t_ret, t_mov, t_retN, t_brk, t_cnt, t_pass, t_rais, t_tr, wp_try, h_nil, h_cons, then_nx, then_rt, then_bk, then_ct, b_nil, b_cons, after_nx, after_ct, after_bk, after_rt, after_no, after_so, fin_qn, fin_qr, so_vw, so_cst, so_var, so_glob, so_prim, so_sl, so_and, so_or, so_not, so_ife, so_one, so_tru, so_chain, so_call, so_lc, so_pop, snap_d, snap_l, Option.isSome_some, List.getD_cons_zero, List.getD_cons_succ, List.set_cons_zero, List.set_cons_succ, List.length_cons, List.length_nil, Nat.reduceAdd, Nat.reduceSub, Nat.reduceLT, Nat.reduceLeDiff, List.map_cons, List.map_nil, List.replicate, List.cons_append, List.nil_append, List.append_nil, outsOf, wipeE, backE, ownIx, putOuts, Option.toList, It.lk, Es.lk, items_l, items_t, slR_e, sl_t, sl_l, if_true, if_false, Bool.false_eq_true, Bool.true_and, Bool.and_true, Bool.not_true, Bool.not_false, Option.map_some, decide_true, decide_false, q_tup, q_lst, p_add, p_sub, p_mul, p_mod, p_div, p_pow18, p_lt, p_le, p_gt, p_ge, p_eq, p_ne, p_ixL, p_ixT, p_neg, p_lenL, p_lenT, p_int, p_intB, p_abs, p_min, p_max, p_tupL, p_tupT, p_listL, p_listT, p_dic]
    refine wp_pure (carried_let 1 g hc (by omega) (.inl rfl)) rfl rfl ?_
    simp only [ne_let, wp_ok, wp_ex, wp_bind, bnd_ok, bnd_ex, bl_bind, boolR_b, cond_t, cond_f, e_cst, e_var, varR_d, someR_s, e_prim, e_sl, e_slv, e_and, e_or, e_one, e_not, e_tru, e_ife, e_chain, e_call, e_lc, e_pop, s_nil, s_cons, o_no, o_yes, intR_i, pt_no, pt_yes, es_nil, es_val, es_vw, a_nil, a_val, a_vw, it_seq, it_rng, it_enum, opd_n, opd_s, t_set, t_unp, t_par, t_setIx, ownR_l, valR_d, t_aug, t_exp, t_app, frzR_s, t_frz, setS_lt, t_ife, t_ret, t_mov, t_retN, t_brk, t_cnt, t_pass, t_rais, t_tr, wp_try, h_nil, h_cons, then_nx, then_rt, then_bk, then_ct, b_nil, b_cons, after_nx, after_ct, after_bk, after_rt, after_no, after_so, fin_qn, fin_qr, so_vw, so_cst, so_var, so_glob, so_prim, so_sl, so_and, so_or, so_not, so_ife, so_one, so_tru, so_chain, so_call, so_lc, so_pop, snap_d, snap_l, Option.isSome_some, List.getD_cons_zero, List.getD_cons_succ, List.set_cons_zero, List.set_cons_succ, List.length_cons, List.length_nil, Nat.reduceAdd, Nat.reduceSub, Nat.reduceLT, Nat.reduceLeDiff, List.map_cons, List.map_nil, List.replicate, List.cons_append, List.nil_append, List.append_nil, outsOf, wipeE, backE, ownIx, putOuts, Option.toList, It.lk, Es.lk, items_l, items_t, slR_e, sl_t, sl_l, if_true, if_false, Bool.false_eq_true, Bool.true_and, Bool.and_true, Bool.not_true, Bool.not_false, Option.map_some, decide_true, decide_false, q_tup, q_lst, p_add, p_sub, p_mul, p_mod, p_div, p_pow18, p_lt, p_le, p_gt, p_ge, p_eq, p_ne, p_ixL, p_ixT, p_neg, p_lenL, p_lenT, p_int, p_intB, p_abs, p_min, p_max, p_tupL, p_tupT, p_listL, p_listT, p_dic]
    exact hq da _ _ _ _ _ _ ha
  · rintro n d acc env hd ⟨d3, cs, h3, rfl, hl, hc, rfl⟩
    obtain ⟨hn, rfl⟩ := rng_at hd
    rw [lcT_n _ (by show 11 < 12; decide)]
    simp only [wp_ok, wp_ex, wp_bind, bnd_ok, bnd_ex, bl_bind, boolR_b, cond_t, cond_f, e_cst, e_var, varR_d, someR_s, e_prim, e_sl, e_slv, e_and, e_or, e_one, e_not, e_tru, e_ife, e_chain, e_call, e_lc, e_pop, s_nil, s_cons, o_no, o_yes, intR_i, pt_no, pt_yes, es_nil, es_val, es_vw, a_nil, a_val, a_vw, it_seq, it_rng, it_enum, opd_n, opd_s, t_set, t_unp, t_par, t_setIx, ownR_l, valR_d, t_aug, t_exp, t_app, frzR_s, t_frz, setS_lt, t_ife, t_ret, t_mov, t_retN, t_brk, t_cnt, t_pass, t_rais, t_tr, wp_try, h_nil, h_cons, then_nx, then_rt, then_bk, then_ct, b_nil, b_cons, after_nx, after_ct, after_bk, after_rt, after_no, after_so, fin_qn, fin_qr, so_vw, so_cst, so_var, so_glob, so_prim, so_sl, so_and, so_or, so_not, so_ife, so_one, so_tru, so_chain, so_call, so_lc, so_pop, snap_d, snap_l, Option.isSome_some, List.getD_cons_zero, List.getD_cons_succ, List.set_cons_zero, List.set_cons_succ, List.length_cons, List.length_nil, Nat.reduceAdd, Nat.reduceSub, Nat.reduceLT, Nat.reduceLeDiff, List.map_cons, List.map_nil, List.replicate, List.cons_append, List.nil_append, List.append_nil, outsOf, wipeE, backE, ownIx, putOuts, Option.toList, It.lk, Es.lk, items_l, items_t, slR_e, sl_t, sl_l, if_true, if_false, Bool.false_eq_true, Bool.true_and, Bool.and_true, Bool.not_true, Bool.not_false, Option.map_some, decide_true, decide_false, q_tup, q_lst, p_add, p_sub, p_mul, p_mod, p_div, p_pow18, p_lt, p_le, p_gt, p_ge, p_eq, p_ne, p_ixL, p_ixT, p_neg, p_lenL, p_lenT, p_int, p_intB, p_abs, p_min, p_max, p_tupL, p_tupT, p_listL, p_listT, p_dic]
    refine w_room hls h3 fun a b d4 ha hb h4 => ?_
    simp only [hln, wp_ok, wp_ex, wp_bind, bnd_ok, bnd_ex, bl_bind, boolR_b, cond_t, cond_f, e_cst, e_var, varR_d, someR_s, e_prim, e_sl, e_slv, e_and, e_or, e_one, e_not, e_tru, e_ife, e_chain, e_call, e_lc, e_pop, s_nil, s_cons, o_no, o_yes, intR_i, pt_no, pt_yes, es_nil, es_val, es_vw, a_nil, a_val, a_vw, it_seq, it_rng, it_enum, opd_n, opd_s, t_set, t_unp, t_par, t_setIx, ownR_l, valR_d, t_aug, t_exp, t_app, frzR_s, t_frz, setS_lt, t_ife, t_ret, t_mov, t_retN, t_brk, t_cnt, t_pass, t_rais, t_tr, wp_try, h_nil, h_cons, then_nx, then_rt, then_bk, then_ct, b_nil, b_cons, after_nx, after_ct, after_bk, after_rt, after_no, after_so, fin_qn, fin_qr, so_vw, so_cst, so_var, so_glob, so_prim, so_sl, so_and, so_or, so_not, so_ife, so_one, so_tru, so_chain, so_call, so_lc, so_pop, snap_d, snap_l, Option.isSome_some, List.getD_cons_zero, List.getD_cons_succ, List.set_cons_zero, List.set_cons_succ, List.length_cons, List.length_nil, Nat.reduceAdd, Nat.reduceSub, Nat.reduceLT, Nat.reduceLeDiff, List.map_cons, List.map_nil, List.replicate, List.cons_append, List.nil_append, List.append_nil, outsOf, wipeE, backE, ownIx, putOuts, Option.toList, It.lk, Es.lk, items_l, items_t, slR_e, sl_t, sl_l, if_true, if_false, Bool.false_eq_true, Bool.true_and, Bool.and_true, Bool.not_true, Bool.not_false, Option.map_some, decide_true, decide_false, q_tup, q_lst, p_add, p_sub, p_mul, p_mod, p_div, p_pow18, p_lt, p_le, p_gt, p_ge, p_eq, p_ne, p_ixL, p_ixT, p_neg, p_lenL, p_lenT, p_int, p_intB, p_abs, p_min, p_max, p_tupL, p_tupT, p_listL, p_listT, p_dic]
    refine w_draw (n := (ls.length : Int)) h4 (by omega) (by omega) fun r d5 hr h5 => ?_
    simp only [wp_ok, wp_ex, wp_bind, bnd_ok, bnd_ex, bl_bind, boolR_b, cond_t, cond_f, e_cst, e_var, varR_d, someR_s, e_prim, e_sl, e_slv, e_and, e_or, e_one, e_not, e_tru, e_ife, e_chain, e_call, e_lc, e_pop, s_nil, s_cons, o_no, o_yes, intR_i, pt_no, pt_yes, es_nil, es_val, es_vw, a_nil, a_val, a_vw, it_seq, it_rng, it_enum, opd_n, opd_s, t_set, t_unp, t_par, t_setIx, ownR_l, valR_d, t_aug, t_exp, t_app, frzR_s, t_frz, setS_lt, t_ife, t_ret, t_mov, t_retN, t_brk, t_cnt, t_pass, t_rais, t_tr, wp_try, h_nil, h_cons, then_nx, then_rt, then_bk, then_ct, b_nil, b_cons, after_nx, after_ct, after_bk, after_rt, after_no, after_so, fin_qn, fin_qr, so_vw, so_cst, so_var, so_glob, so_prim, so_sl, so_and, so_or, so_not, so_ife, so_one, so_tru, so_chain, so_call, so_lc, so_pop, snap_d, snap_l, Option.isSome_some, List.getD_cons_zero, List.getD_cons_succ, List.set_cons_zero, List.set_cons_succ, List.length_cons, List.length_nil, Nat.reduceAdd, Nat.reduceSub, Nat.reduceLT, Nat.reduceLeDiff, List.map_cons, List.map_nil, List.replicate, List.cons_append, List.nil_append, List.append_nil, outsOf, wipeE, backE, ownIx, putOuts, Option.toList, It.lk, Es.lk, items_l, items_t, slR_e, sl_t, sl_l, if_true, if_false, Bool.false_eq_true, Bool.true_and, Bool.and_true, Bool.not_true, Bool.not_false, Option.map_some, decide_true, decide_false, q_tup, q_lst, p_add, p_sub, p_mul, p_mod, p_div, p_pow18, p_lt, p_le, p_gt, p_ge, p_eq, p_ne, p_ixL, p_ixT, p_neg, p_lenL, p_lenT, p_int, p_intB, p_abs, p_min, p_max, p_tupL, p_tupT, p_listL, p_listT, p_dic]
    refine ⟨?_, d5, cs ++ [⟨a, b, r⟩], h5, by rw [List.map_append]; rfl, by rw [List.length_append, List.length_singleton, hl], fun c hcc => ?_, rfl⟩
    · rw [List.length_map]; exact Nat.lt_of_lt_of_le (show _ < 1000 by omega) (small_le (by decide))
    · rcases List.mem_append.mp hcc with q | q
      · exact hc c q
      · rw [List.mem_singleton.mp q]; exact ⟨ha, hb, (show r < ls.length by omega)⟩
theorem law_true (ns : List Int) (h : ns.length ≤ 63) : ∃ outs, P.call 9 21 [.d (.lst (ns.map .int))] = .ok (.d (.bl true)) outs := by
  have main : (P.call 9 21 [.d (.lst (ns.map .int))]).wp (fun t _ => t = .d (.bl true)) (fun _ _ => False) := by
    refine wp_def (fn := c_law) rfl rfl rfl ?_
    simp only [c_law, wp_ok, wp_ex, wp_bind, bnd_ok, bnd_ex, bl_bind, boolR_b, cond_t, cond_f, e_cst, e_var, varR_d, someR_s, e_prim, e_sl, e_slv, e_and, e_or, e_one, e_not, e_tru, e_ife, e_chain, e_call, e_lc, e_pop, s_nil, s_cons, o_no, o_yes, intR_i, pt_no, pt_yes, es_nil, es_val, es_vw, a_nil, a_val, a_vw, it_seq, it_rng, it_enum, opd_n, opd_s, t_set, t_unp, t_par, t_setIx, ownR_l, valR_d, t_aug, t_exp, t_app, frzR_s, t_frz, setS_lt, t_ife, t_ret, t_mov, t_retN, t_brk, t_cnt, t_pass, t_rais, t_tr, wp_try, h_nil, h_cons, then_nx, then_rt, then_bk, then_ct, b_nil, b_cons, after_nx, after_ct, after_bk, after_rt, after_no, after_so, fin_qn, fin_qr, so_vw, so_cst, so_var, so_glob, so_prim, so_sl, so_and, so_or, so_not, so_ife, so_one, so_tru, so_chain, so_call, so_lc, so_pop, snap_d, snap_l, Option.isSome_some, List.getD_cons_zero, List.getD_cons_succ, List.set_cons_zero, List.set_cons_succ, List.length_cons, List.length_nil, Nat.reduceAdd, Nat.reduceSub, Nat.reduceLT, Nat.reduceLeDiff, List.map_cons, List.map_nil, List.replicate, List.cons_append, List.nil_append, List.append_nil, outsOf, wipeE, backE, ownIx, putOuts, Option.toList, It.lk, Es.lk, items_l, items_t, slR_e, sl_t, sl_l, if_true, if_false, Bool.false_eq_true, Bool.true_and, Bool.and_true, Bool.not_true, Bool.not_false, Option.map_some, decide_true, decide_false, q_tup, q_lst, p_add, p_sub, p_mul, p_mod, p_div, p_pow18, p_lt, p_le, p_gt, p_ge, p_eq, p_ne, p_ixL, p_ixT, p_neg, p_lenL, p_lenT, p_int, p_intB, p_abs, p_min, p_max, p_tupL, p_tupT, p_listL, p_listT, p_dic]
    obtain ⟨d0, hd0, e0⟩ := dice_ok ⟨P.call 7, P.io, P.glob⟩ P.isa h
    have e1 : P.call 8 12 [.d (.lst (ns.map .int))] = .ok (.l d0) [] := (call_eq (fn := c__law_dice) rfl).trans e0
    refine wp_pure e1 rfl rfl ?_
    simp only [wp_ok, wp_ex, wp_bind, bnd_ok, bnd_ex, bl_bind, boolR_b, cond_t, cond_f, e_cst, e_var, varR_d, someR_s, e_prim, e_sl, e_slv, e_and, e_or, e_one, e_not, e_tru, e_ife, e_chain, e_call, e_lc, e_pop, s_nil, s_cons, o_no, o_yes, intR_i, pt_no, pt_yes, es_nil, es_val, es_vw, a_nil, a_val, a_vw, it_seq, it_rng, it_enum, opd_n, opd_s, t_set, t_unp, t_par, t_setIx, ownR_l, valR_d, t_aug, t_exp, t_app, frzR_s, t_frz, setS_lt, t_ife, t_ret, t_mov, t_retN, t_brk, t_cnt, t_pass, t_rais, t_tr, wp_try, h_nil, h_cons, then_nx, then_rt, then_bk, then_ct, b_nil, b_cons, after_nx, after_ct, after_bk, after_rt, after_no, after_so, fin_qn, fin_qr, so_vw, so_cst, so_var, so_glob, so_prim, so_sl, so_and, so_or, so_not, so_ife, so_one, so_tru, so_chain, so_call, so_lc, so_pop, snap_d, snap_l, Option.isSome_some, List.getD_cons_zero, List.getD_cons_succ, List.set_cons_zero, List.set_cons_succ, List.length_cons, List.length_nil, Nat.reduceAdd, Nat.reduceSub, Nat.reduceLT, Nat.reduceLeDiff, List.map_cons, List.map_nil, List.replicate, List.cons_append, List.nil_append, List.append_nil, outsOf, wipeE, backE, ownIx, putOuts, Option.toList, It.lk, Es.lk, items_l, items_t, slR_e, sl_t, sl_l, if_true, if_false, Bool.false_eq_true, Bool.true_and, Bool.and_true, Bool.not_true, Bool.not_false, Option.map_some, decide_true, decide_false, q_tup, q_lst, p_add, p_sub, p_mul, p_mod, p_div, p_pow18, p_lt, p_le, p_gt, p_ge, p_eq, p_ne, p_ixL, p_ixT, p_neg, p_lenL, p_lenT, p_int, p_intB, p_abs, p_min, p_max, p_tupL, p_tupT, p_listL, p_listT, p_dic]
    refine w_lengths hd0 fun ls d1 hls h1 => ?_
    obtain ⟨f1, f2, f3⟩ := lenB_facts hls
    simp only [wp_ok, wp_ex, wp_bind, bnd_ok, bnd_ex, bl_bind, boolR_b, cond_t, cond_f, e_cst, e_var, varR_d, someR_s, e_prim, e_sl, e_slv, e_and, e_or, e_one, e_not, e_tru, e_ife, e_chain, e_call, e_lc, e_pop, s_nil, s_cons, o_no, o_yes, intR_i, pt_no, pt_yes, es_nil, es_val, es_vw, a_nil, a_val, a_vw, it_seq, it_rng, it_enum, opd_n, opd_s, t_set, t_unp, t_par, t_setIx, ownR_l, valR_d, t_aug, t_exp, t_app, frzR_s, t_frz, setS_lt, t_ife, t_ret, t_mov, t_retN, t_brk, t_cnt, t_pass, t_rais, t_tr, wp_try, h_nil, h_cons, then_nx, then_rt, then_bk, then_ct, b_nil, b_cons, after_nx, after_ct, after_bk, after_rt, after_no, after_so, fin_qn, fin_qr, so_vw, so_cst, so_var, so_glob, so_prim, so_sl, so_and, so_or, so_not, so_ife, so_one, so_tru, so_chain, so_call, so_lc, so_pop, snap_d, snap_l, Option.isSome_some, List.getD_cons_zero, List.getD_cons_succ, List.set_cons_zero, List.set_cons_succ, List.length_cons, List.length_nil, Nat.reduceAdd, Nat.reduceSub, Nat.reduceLT, Nat.reduceLeDiff, List.map_cons, List.map_nil, List.replicate, List.cons_append, List.nil_append, List.append_nil, outsOf, wipeE, backE, ownIx, putOuts, Option.toList, It.lk, Es.lk, items_l, items_t, slR_e, sl_t, sl_l, if_true, if_false, Bool.false_eq_true, Bool.true_and, Bool.and_true, Bool.not_true, Bool.not_false, Option.map_some, decide_true, decide_false, q_tup, q_lst, p_add, p_sub, p_mul, p_mod, p_div, p_pow18, p_lt, p_le, p_gt, p_ge, p_eq, p_ne, p_ixL, p_ixT, p_neg, p_lenL, p_lenT, p_int, p_intB, p_abs, p_min, p_max, p_tupL, p_tupT, p_listL, p_listT, p_dic]
    refine w_holding hls h1 fun rows d2 g hp h2 => ?_
    simp only [wp_ok, wp_ex, wp_bind, bnd_ok, bnd_ex, bl_bind, boolR_b, cond_t, cond_f, e_cst, e_var, varR_d, someR_s, e_prim, e_sl, e_slv, e_and, e_or, e_one, e_not, e_tru, e_ife, e_chain, e_call, e_lc, e_pop, s_nil, s_cons, o_no, o_yes, intR_i, pt_no, pt_yes, es_nil, es_val, es_vw, a_nil, a_val, a_vw, it_seq, it_rng, it_enum, opd_n, opd_s, t_set, t_unp, t_par, t_setIx, ownR_l, valR_d, t_aug, t_exp, t_app, frzR_s, t_frz, setS_lt, t_ife, t_ret, t_mov, t_retN, t_brk, t_cnt, t_pass, t_rais, t_tr, wp_try, h_nil, h_cons, then_nx, then_rt, then_bk, then_ct, b_nil, b_cons, after_nx, after_ct, after_bk, after_rt, after_no, after_so, fin_qn, fin_qr, so_vw, so_cst, so_var, so_glob, so_prim, so_sl, so_and, so_or, so_not, so_ife, so_one, so_tru, so_chain, so_call, so_lc, so_pop, snap_d, snap_l, Option.isSome_some, List.getD_cons_zero, List.getD_cons_succ, List.set_cons_zero, List.set_cons_succ, List.length_cons, List.length_nil, Nat.reduceAdd, Nat.reduceSub, Nat.reduceLT, Nat.reduceLeDiff, List.map_cons, List.map_nil, List.replicate, List.cons_append, List.nil_append, List.append_nil, outsOf, wipeE, backE, ownIx, putOuts, Option.toList, It.lk, Es.lk, items_l, items_t, slR_e, sl_t, sl_l, if_true, if_false, Bool.false_eq_true, Bool.true_and, Bool.and_true, Bool.not_true, Bool.not_false, Option.map_some, decide_true, decide_false, q_tup, q_lst, p_add, p_sub, p_mul, p_mod, p_div, p_pow18, p_lt, p_le, p_gt, p_ge, p_eq, p_ne, p_ixL, p_ixT, p_neg, p_lenL, p_lenT, p_int, p_intB, p_abs, p_min, p_max, p_tupL, p_tupT, p_listL, p_listT, p_dic]
    refine wp_fo (ds := (List.range 6).map fun (n : Nat) => D.int n) (fun n env => ∃ (d3 : List D) (x4 x5 x6 x7 x8 x9 xa xb : Option T), Die d3 ∧ env = [some (.d (.lst (ns.map .int))), some (.l d3), some (.d (.tup ((toI ls).map .int))), some (.d (hold rows)), x4, x5, x6, x7, x8, x9, xa, xb]) (env0 := [some (.d (.lst (ns.map .int))), some (.l d2), some (.d (.tup ((toI ls).map .int))), some (.d (hold rows)), none, none, none, none, none, none, none, none]) rfl (by simp only [rng_to 6 (by decide), wp_ok, wp_ex, wp_bind, bnd_ok, bnd_ex, bl_bind, boolR_b, cond_t, cond_f, e_cst, e_var, varR_d, someR_s, e_prim, e_sl, e_slv, e_and, e_or, e_one, e_not, e_tru, e_ife, e_chain, e_call, e_lc, e_pop, s_nil, s_cons, o_no, o_yes, intR_i, pt_no, pt_yes, es_nil, es_val, es_vw, a_nil, a_val, a_vw, it_seq, it_rng, it_enum, opd_n, opd_s, t_set, t_unp, t_par, t_setIx, ownR_l, valR_d, t_aug, t_exp, t_app, frzR_s, t_frz, setS_lt, t_ife, t_ret, t_mov, t_retN, t_brk, t_cnt, t_pass, t_rais, t_tr, wp_try, h_nil, h_cons, then_nx, then_rt, then_bk, then_ct, b_nil, b_cons, after_nx, after_ct, after_bk, after_rt, after_no, after_so, fin_qn, fin_qr, so_vw, so_cst, so_var, so_glob, so_prim, so_sl, so_and, so_or, so_not, so_ife, so_one, so_tru, so_chain, so_call, so_lc, so_pop, snap_d, snap_l, Option.isSome_some, List.getD_cons_zero, List.getD_cons_succ, List.set_cons_zero, List.set_cons_succ, List.length_cons, List.length_nil, Nat.reduceAdd, Nat.reduceSub, Nat.reduceLT, Nat.reduceLeDiff, List.map_cons, List.map_nil, List.replicate, List.cons_append, List.nil_append, List.append_nil, outsOf, wipeE, backE, ownIx, putOuts, Option.toList, It.lk, Es.lk, items_l, items_t, slR_e, sl_t, sl_l, if_true, if_false, Bool.false_eq_true, Bool.true_and, Bool.and_true, Bool.not_true, Bool.not_false, Option.map_some, decide_true, decide_false, q_tup, q_lst, p_add, p_sub, p_mul, p_mod, p_div, p_pow18, p_lt, p_le, p_gt, p_ge, p_eq, p_ne, p_ixL, p_ixT, p_neg, p_lenL, p_lenT, p_int, p_intB, p_abs, p_min, p_max, p_tupL, p_tupT, p_listL, p_listT, p_dic]; rfl) ⟨d2, _, _, _, _, _, _, _, _, h2, rfl⟩ ?_ ?_
    · rintro env ⟨d3, x4, x5, x6, x7, x8, x9, xa, xb, h3, rfl⟩
      have e1000 : primF (.bin .Mult) [.lst [.tup [.tup [.int 0, .int 0], .int 0]], .int 1000] = some (.l (many 1000)) := mul_many 1000 (by decide)
      simp only [e1000, wp_ok, wp_ex, wp_bind, bnd_ok, bnd_ex, bl_bind, boolR_b, cond_t, cond_f, e_cst, e_var, varR_d, someR_s, e_prim, e_sl, e_slv, e_and, e_or, e_one, e_not, e_tru, e_ife, e_chain, e_call, e_lc, e_pop, s_nil, s_cons, o_no, o_yes, intR_i, pt_no, pt_yes, es_nil, es_val, es_vw, a_nil, a_val, a_vw, it_seq, it_rng, it_enum, opd_n, opd_s, t_set, t_unp, t_par, t_setIx, ownR_l, valR_d, t_aug, t_exp, t_app, frzR_s, t_frz, setS_lt, t_ife, t_ret, t_mov, t_retN, t_brk, t_cnt, t_pass, t_rais, t_tr, wp_try, h_nil, h_cons, then_nx, then_rt, then_bk, then_ct, b_nil, b_cons, after_nx, after_ct, after_bk, after_rt, after_no, after_so, fin_qn, fin_qr, so_vw, so_cst, so_var, so_glob, so_prim, so_sl, so_and, so_or, so_not, so_ife, so_one, so_tru, so_chain, so_call, so_lc, so_pop, snap_d, snap_l, Option.isSome_some, List.getD_cons_zero, List.getD_cons_succ, List.set_cons_zero, List.set_cons_succ, List.length_cons, List.length_nil, Nat.reduceAdd, Nat.reduceSub, Nat.reduceLT, Nat.reduceLeDiff, List.map_cons, List.map_nil, List.replicate, List.cons_append, List.nil_append, List.append_nil, outsOf, wipeE, backE, ownIx, putOuts, Option.toList, It.lk, Es.lk, items_l, items_t, slR_e, sl_t, sl_l, if_true, if_false, Bool.false_eq_true, Bool.true_and, Bool.and_true, Bool.not_true, Bool.not_false, Option.map_some, decide_true, decide_false, q_tup, q_lst, p_add, p_sub, p_mul, p_mod, p_div, p_pow18, p_lt, p_le, p_gt, p_ge, p_eq, p_ne, p_ixL, p_ixT, p_neg, p_lenL, p_lenT, p_int, p_intB, p_abs, p_min, p_max, p_tupL, p_tupT, p_listL, p_listT, p_dic]
      have hc : ∀ c ∈ List.replicate 1000 (⟨0, 0, 0⟩ : Cy), c.ok ls := fun c hc => by
        rw [(List.mem_replicate.mp hc).2]
        refine ⟨by show 0 < ls.length; omega, ?_, by show 0 < ls.length; omega⟩
        show 0 < ls.getD 0 0
        have h0 : 0 < ls.length := by omega
        rw [List.getD_eq_getElem?_getD, List.getElem?_eq_getElem h0]
        exact (f3 _ (List.getElem_mem h0)).1
      have em : (List.replicate 1000 (⟨0, 0, 0⟩ : Cy)).map cD = many 1000 := by rw [List.map_replicate]; rfl
      refine wp_pure (carried_let 1 g hc (by rw [List.length_replicate]; decide) (.inl (by rw [em]))) rfl rfl ?_
      simp only [eq_let, wp_ok, wp_ex, wp_bind, bnd_ok, bnd_ex, bl_bind, boolR_b, cond_t, cond_f, e_cst, e_var, varR_d, someR_s, e_prim, e_sl, e_slv, e_and, e_or, e_one, e_not, e_tru, e_ife, e_chain, e_call, e_lc, e_pop, s_nil, s_cons, o_no, o_yes, intR_i, pt_no, pt_yes, es_nil, es_val, es_vw, a_nil, a_val, a_vw, it_seq, it_rng, it_enum, opd_n, opd_s, t_set, t_unp, t_par, t_setIx, ownR_l, valR_d, t_aug, t_exp, t_app, frzR_s, t_frz, setS_lt, t_ife, t_ret, t_mov, t_retN, t_brk, t_cnt, t_pass, t_rais, t_tr, wp_try, h_nil, h_cons, then_nx, then_rt, then_bk, then_ct, b_nil, b_cons, after_nx, after_ct, after_bk, after_rt, after_no, after_so, fin_qn, fin_qr, so_vw, so_cst, so_var, so_glob, so_prim, so_sl, so_and, so_or, so_not, so_ife, so_one, so_tru, so_chain, so_call, so_lc, so_pop, snap_d, snap_l, Option.isSome_some, List.getD_cons_zero, List.getD_cons_succ, List.set_cons_zero, List.set_cons_succ, List.length_cons, List.length_nil, Nat.reduceAdd, Nat.reduceSub, Nat.reduceLT, Nat.reduceLeDiff, List.map_cons, List.map_nil, List.replicate, List.cons_append, List.nil_append, List.append_nil, outsOf, wipeE, backE, ownIx, putOuts, Option.toList, It.lk, Es.lk, items_l, items_t, slR_e, sl_t, sl_l, if_true, if_false, Bool.false_eq_true, Bool.true_and, Bool.and_true, Bool.not_true, Bool.not_false, Option.map_some, decide_true, decide_false, q_tup, q_lst, p_add, p_sub, p_mul, p_mod, p_div, p_pow18, p_lt, p_le, p_gt, p_ge, p_eq, p_ne, p_ixL, p_ixT, p_neg, p_lenL, p_lenT, p_int, p_intB, p_abs, p_min, p_max, p_tupL, p_tupT, p_listL, p_listT, p_dic]
      refine wp_pure (carried_let 1 g (cs := []) (fun c hc => by simp at hc) (by decide) (.inr rfl)) rfl rfl ?_
      simp only [eq_let, wp_ok, wp_ex, wp_bind, bnd_ok, bnd_ex, bl_bind, boolR_b, cond_t, cond_f, e_cst, e_var, varR_d, someR_s, e_prim, e_sl, e_slv, e_and, e_or, e_one, e_not, e_tru, e_ife, e_chain, e_call, e_lc, e_pop, s_nil, s_cons, o_no, o_yes, intR_i, pt_no, pt_yes, es_nil, es_val, es_vw, a_nil, a_val, a_vw, it_seq, it_rng, it_enum, opd_n, opd_s, t_set, t_unp, t_par, t_setIx, ownR_l, valR_d, t_aug, t_exp, t_app, frzR_s, t_frz, setS_lt, t_ife, t_ret, t_mov, t_retN, t_brk, t_cnt, t_pass, t_rais, t_tr, wp_try, h_nil, h_cons, then_nx, then_rt, then_bk, then_ct, b_nil, b_cons, after_nx, after_ct, after_bk, after_rt, after_no, after_so, fin_qn, fin_qr, so_vw, so_cst, so_var, so_glob, so_prim, so_sl, so_and, so_or, so_not, so_ife, so_one, so_tru, so_chain, so_call, so_lc, so_pop, snap_d, snap_l, Option.isSome_some, List.getD_cons_zero, List.getD_cons_succ, List.set_cons_zero, List.set_cons_succ, List.length_cons, List.length_nil, Nat.reduceAdd, Nat.reduceSub, Nat.reduceLT, Nat.reduceLeDiff, List.map_cons, List.map_nil, List.replicate, List.cons_append, List.nil_append, List.append_nil, outsOf, wipeE, backE, ownIx, putOuts, Option.toList, It.lk, Es.lk, items_l, items_t, slR_e, sl_t, sl_l, if_true, if_false, Bool.false_eq_true, Bool.true_and, Bool.and_true, Bool.not_true, Bool.not_false, Option.map_some, decide_true, decide_false, q_tup, q_lst, p_add, p_sub, p_mul, p_mod, p_div, p_pow18, p_lt, p_le, p_gt, p_ge, p_eq, p_ne, p_ixL, p_ixT, p_neg, p_lenL, p_lenT, p_int, p_intB, p_abs, p_min, p_max, p_tupL, p_tupT, p_listL, p_listT, p_dic]
    · rintro i d env hd ⟨d3, x4, x5, x6, x7, x8, x9, xa, xb, h3, rfl⟩
      rw [turn_n _ _ _ _ _ _ (by show 4 < 12; decide)]
      refine turn21 ns hls g h3 (some (.d d)) x5 x6 x7 x8 x9 xa xb fun d4 y5 y6 y7 y8 y9 ya h4 => ?_
      exact ⟨d4, _, _, _, _, _, _, _, _, h4, rfl⟩
  obtain ⟨t, env, e, rfl⟩ := wp_get main
  exact ⟨env, e⟩
end W

/-! the head -/
namespace W
open PySem PySem.Spec PyProof.Rows L2 AM
abbrev R : PySem.W.OpenRow := PySem.W.OpenLaw.row PySem.Challenge.rw_fullbelts_k21_holdings_and_carries_refus
abbrev hk : PySem.W.Hook := He.hookD 5 txt.fa txt.fn
def ob (s : PySem.W.SharedT) : He.AlD := He.obsDG 5 txt.fa txt.fn (HandSHeadRun.getT s)
theorem ob_eq (s : PySem.W.SharedT) : ob s = hk.obs s.abs := He.obsDG_eq (HandSHeadRun.getT_eq s)
def loose : List Str := ["BeltsError", "NoHolding", "NoBelt", "NoCarries", "is_integer", "is_index", "are_lengths", "is_item", "is_holding", "is_room_of", "is_carry_of", "are_carries_of", "put_in", "done", "put", "carried", "_law_dice", "_law_draw", "_law_lengths", "_law_room", "_law_holding", "_law_put_told", "_law_carried_told", "_law_no_holding", "_law_no_carry", "MOST_BELTS", "MOST_ROOMS", "MOST_SIZE", "MOST_CARRIES"]
theorem run (w : World) : HandSHeadRun.RunEq R (PySem.W.view R.prog [33]) hk ob 4000 loose w := by
  intro os
  kernel_rfl
end W

namespace W
open PySem PySem.W PySem.Calls PyProof.Rows AM
theorem okk : txt.okB = true := by decide +kernel
theorem ok : txt.Ok := Txt.ok_by okk rfl
end W
open PySem PySem.W PySem.Calls PyProof.Rows in
theorem PySem.Challenge.cw_fullbelts_k21_holdings_and_carries_refus_holds : PySem.Challenge.rw_fullbelts_k21_holdings_and_carries_refus.Holds := by
  w_on; o_law
  refine HandSHeadRun.head_any (r := OpenLaw.row PySem.Challenge.rw_fullbelts_k21_holdings_and_carries_refus) (q := view (OpenLaw.row PySem.Challenge.rw_fullbelts_k21_holdings_and_carries_refus).prog [33]) (H := W.hk) (ob := W.ob) (M := 4000) (loose := W.loose) (d := HandSHeadRun.topDef (OpenLaw.row PySem.Challenge.rw_fullbelts_k21_holdings_and_carries_refus).prog 33) (kwd := []) W.ob_eq
    (by kernel_rfl) (fun s => by kernel_rfl) W.run (by kernel_rfl) (by kernel_rfl) (by kernel_rfl) (by rfl) (by first | assumption | decide +kernel) (by decide +kernel) ⟨rfl, rfl, rfl, rfl, rfl, by decide +kernel⟩ ?hw ?hc
  case hw => w_witness2
  case hc =>
    exact AM.walk_am (l := PySem.Challenge.rw_fullbelts_k21_holdings_and_carries_refus) (k := 9) (t := W.txt) (f := 21) (fn := W.c_law) (x := "_law_script") rfl (by kernel_rfl) ⟨rfl, by decide, by decide⟩ W.ok rfl rfl (by kernel_rfl) (by decide +kernel) W.law_true
