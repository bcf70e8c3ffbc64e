import PyProof.Rows.All
import Wide.All
import OpenK.AllK
import Wide.FinOn
import HandS.ForExc
import HandS.Comp
import HandS.Deep
import HandS.TupAny
import HandS.RaiseMore
import HandS.More
import HandS.Text
import HandS.ExcOwn
import HandS.Zip
import HandS.Head3
import HandS.HeadEnd
import HandS.HeadHook1
import HandS.HeadHook2
import HandS.HeadHook4
import HandS.Defaults
import PySem.Challenge.RW_cutstand_k51_the_cut_of_a_number
set_option Elab.async false
/-! VS1: values as trees, the small syntax, the evaluator. Pure: no machine here. -/
set_option linter.all false
set_option autoImplicit false
namespace VS
open PySem

/-- contents that no longer change -/
abbrev C := PyData
/-- values: contents, or trees with something that may still be changed -/
inductive D where
  | imm (c : C)
  | lst (xs : List D)
  | dct (k : Bool) (kvs : List (C × D))
  | tup (xs : List D)
  deriving Inhabited
/-- a raised refusal: the class's number, the fields -/
structure Ex where
  cls : Nat
  fs : List C
abbrev Env := List (Option D)
inductive R (α : Type) where
  | ok (a : α) (env : Env)
  | exn (x : Ex) (env : Env)
  | stuck

inductive Bi where
  | len | int_ | max_ | min_ | repr_ | tuple_ | list_ | all_ | any_ | sum_ | str_ | dict_ | sorted_ | set_
  deriving DecidableEq, Inhabited
/-- methods that change their list -/
inductive Mu where
  | append | insert | pop | popAt | reverse | clear | extend | remove
  deriving DecidableEq, Inhabited
inductive Tg where
  | v (i : Nat)
  | t (ts : List Tg)
  deriving Inhabited
mutual
inductive E where
  | non | bl (b : Bool) | int (i : Int) | str (s : Str)
  | var (i : Nat)
  | mv (i : Nat)
  | fz (i : Nat)
  | gc (g : Nat)
  | bin (o : Operator) (a b : E)
  | neg (a : E)
  | not (a : E)
  | cmp (o : CmpOp) (a b : E)
  | chain (o o' : CmpOp) (a b c : E)
  | and (a b : E)
  | or (a b : E)
  | ite (c a b : E)
  | tup (es : List E)
  | lst (es : List E)
  | dct (k : Bool) (ks vs : List E)
  | idx (a i : E)
  | slc (a : E) (lo hi : Option E)
  | bi (b : Bi) (es : List E)
  | call (f : Nat) (es : List E)
  | mut (m : Mu) (r : Nat) (ks : List E) (es : List E)
  | comp (elt : E) (tg : Tg) (it : It) (cond : Option E) (own : List Nat)
  | isi (a : E) (ts : List Str)
inductive It where
  | seq (e : E)
  | range (es : List E)
  | enum (e : E)
  | zip (a b : E)
  | down (es : List E)
end
instance : Inhabited E := ⟨.non⟩
inductive S where
  | asg (i : Nat) (e : E)
  | unp (ts : List Tg) (e : E)
  | setI (r : Nat) (ks : List E) (i : E) (e : E)
  | ex (e : E)
  | ifs (c : E) (a b : List S)
  | fors (tg : Tg) (it : It) (body : List S)
  | whl (c : E) (body : List S)
  | ret (e : E)
  | retN
  | rais (cls : Nat) (es : List E)
  | pass
  | brk
instance : Inhabited S := ⟨.pass⟩
structure FnDef where
  np : Nat
  ns : Nat
  rb : List Bool
  body : List S
  deriving Inhabited

/-! ### reading contents -/
mutual
def D.c? : D → Option C
  | .imm c => some c
  | .lst xs => (cs? xs).map .list
  | .tup xs => (cs? xs).map .tuple
  | .dct _ _ => none
def cs? : List D → Option (List C)
  | [] => some []
  | x :: xs => match x.c?, cs? xs with
    | some c, some cs => some (c :: cs)
    | _, _ => none
end
/-- all items are contents -/
def imms : List D → Option (List C)
  | [] => some []
  | .imm c :: xs => (imms xs).map (c :: ·)
  | _ :: _ => none
/-- a list's items -/
def D.list? : D → Option (List D)
  | .imm (.list cs) => some (cs.map .imm)
  | .lst xs => some xs
  | _ => none
def D.tuple? : D → Option (List D)
  | .imm (.tuple cs) => some (cs.map .imm)
  | .tup xs => some xs
  | _ => none
def D.seq? (d : D) : Option (List D) := match d.list? with
  | some xs => some xs
  | none => d.tuple?
def mkTup (ds : List D) : D := match imms ds with
  | some cs => .imm (.tuple cs)
  | none => .tup ds

/-! ### operators on contents -/
def small (i : Int) : Bool := decide (-(2 ^ 64) < i ∧ i < 2 ^ 64)
def binC (o : Operator) (x y : C) : Option C := match o, x, y with
  | .Add, .int i, .int j => some (.int (i + j))
  | .Sub, .int i, .int j => some (.int (i - j))
  | .Mult, .int i, .int j => if small i || small j then some (.int (i * j)) else none
  | .FloorDiv, .int i, .int j => if 0 < j ∧ j < 1073741824 then some (.int (i / j)) else none
  | .Mod, .int i, .int j => if 0 < j then some (.int (i % j)) else none
  | .Pow, .int i, .int j => if 0 ≤ j ∧ j ≤ 1000000 ∧ i.natAbs < 2 ^ 64 then some (.int (i ^ j.toNat)) else none
  | .Add, .str a, .str b => if a.length + b.length ≤ sizeLine then some (.str (a ++ b)) else none
  | _, _, _ => none
/-- + and * of lists and tuples -/
def catD (x y : D) : Option D := match x.list?, y.list? with
  | some xs, some ys => match imms xs, imms ys with
    | some a, some b => if a.length + b.length ≤ sizeLine then some (.lst ((a ++ b).map .imm)) else none
    | _, _ => none
  | _, _ => none
def repD (xs : List D) (k : Int) : Option D := match imms xs with
  | some cs => if -(2 ^ 63) ≤ k ∧ k < 2 ^ 63 ∧ cs.length * k.toNat ≤ sizeLine then some (.lst ((List.replicate k.toNat cs).flatten.map .imm)) else none
  | none => none
def binD (o : Operator) (x y : D) : Option D := match x, y with
  | .imm (.int i), .imm (.int j) => (binC o (.int i) (.int j)).map .imm
  | .imm (.str i), .imm (.str j) => (binC o (.str i) (.str j)).map .imm
  | .imm (.tuple a), .imm (.tuple b) => if o = .Add ∧ a.length + b.length ≤ sizeLine then some (.imm (.tuple (a ++ b))) else none
  | .lst xs, .imm (.int k) => if o = .Mult then repD xs k else none
  | x, y => if o = .Add then catD x y else none
def ixN (n : Nat) (i : Int) : Option Nat := L2.ixN n i
def D.item? (d : D) (k : D) : Option D := match k with
  | .imm (.int i) => match d with
    | .imm (.str z) => if z.length ≤ sizeLine then (L2.atI z.cps.toList i).map fun c => .imm (.str ⟨#[c]⟩) else none
    | d => match d.seq? with
      | some xs => L2.atI xs i
      | none => none
  | _ => none
def okEq (c : C) : Bool := SeqAt.shaped c
/-- is, in, not in, ==, !=, < .. -/
def eqD (x y : D) : Option Bool := match x.c?, y.c? with
  | some a, some b => if okEq a && okEq b then some (PyData.eqv a b) else none
  | _, _ => none
def inD (x y : D) : Option Bool := match x, y with
  | .imm (.str a), .imm (.str z) => match a.cps.toList with
    | [c] => some (decide (c ∈ z.cps.toList))
    | _ => none
  | x, y => match x.c?, y.seq? with
    | some a, some ys => match cs? ys with
      | some bs => if okEq a && bs.all okEq then some (bs.any fun b => PyData.eqv b a) else none
      | none => none
    | _, _ => none
def cmpD (o : CmpOp) (x y : D) : Option Bool := match o with
  | .Eq => eqD x y
  | .NotEq => (eqD x y).map not
  | .In => inD x y
  | .NotIn => (inD x y).map not
  | .Is => match y with
    | .imm .none => some (match x with | .imm .none => true | _ => false)
    | _ => none
  | .IsNot => match y with
    | .imm .none => some (match x with | .imm .none => false | _ => true)
    | _ => none
  | .Lt => match x, y with | .imm (.int i), .imm (.int j) => some (decide (i < j)) | _, _ => none
  | .LtE => match x, y with | .imm (.int i), .imm (.int j) => some (decide (i ≤ j)) | _, _ => none
  | .Gt => match x, y with | .imm (.int i), .imm (.int j) => some (decide (j < i)) | _, _ => none
  | .GtE => match x, y with | .imm (.int i), .imm (.int j) => some (decide (j ≤ i)) | _, _ => none
def sliceD (x : D) (lo hi : Option Int) : Option D := match x with
  | .imm (.str z) => none
  | x => match x.list?, x.tuple? with
    | some xs, _ => match imms xs with
      | some cs => some (.lst ((cs.drop (HT.sIx cs.length 0 lo)).take (HT.sIx cs.length cs.length hi - HT.sIx cs.length 0 lo) |>.map .imm))
      | none => none
    | none, some xs => match imms xs with
      | some cs => some (.imm (.tuple ((cs.drop (HT.sIx cs.length 0 lo)).take (HT.sIx cs.length cs.length hi - HT.sIx cs.length 0 lo))))
      | none => none
    | none, none => none
def ints? : List C → Option (List Int)
  | [] => some []
  | .int i :: r => (ints? r).map (i :: ·)
  | _ :: _ => none
def bools? : List C → Option (List Bool)
  | [] => some []
  | .bool b :: r => (bools? r).map (b :: ·)
  | _ :: _ => none
def biD (b : Bi) (ds : List D) : Option D := match b, ds with
  | .len, [d] => match d with
    | .imm (.str z) => if z.length ≤ sizeLine then some (.imm (.int z.length)) else none
    | d => match d.seq? with
      | some xs => some (.imm (.int xs.length))
      | none => none
  | .int_, [.imm (.int i)] => some (.imm (.int i))
  | .int_, [.imm (.bool k)] => some (.imm (.int (if k then 1 else 0)))
  | .max_, [.imm (.int i), .imm (.int j)] => some (.imm (.int (if j > i then j else i)))
  | .min_, [.imm (.int i), .imm (.int j)] => some (.imm (.int (if j < i then j else i)))
  | .repr_, [d] => match d.c? with
    | some c => if c.showable && !c.hasDict && decide (c.depth ≤ 64) && decide (c.shown.length ≤ sizeLine) then some (.imm (.str c.shown)) else none
    | none => none
  | .tuple_, [d] => match d.seq? with
    | some xs => match imms xs with
      | some cs => some (.imm (.tuple cs))
      | none => none
    | none => none
  | .list_, [d] => match d.seq? with
    | some xs => match imms xs with
      | some cs => some (.lst (cs.map .imm))
      | none => none
    | none => none
  | .all_, [d] => match d.list? with
    | some xs => match imms xs with
      | some cs => (bools? cs).map fun bs => .imm (.bool (bs.all id))
      | none => none
    | none => none
  | .any_, [d] => match d.list? with
    | some xs => match imms xs with
      | some cs => (bools? cs).map fun bs => .imm (.bool (bs.any id))
      | none => none
    | none => none
  | _, _ => none
/-- a changed list, and what the call tells -/
def muL (m : Mu) (xs as : List D) : Option (List D × D) := match m with
  | .append => match as with
    | [a] => if xs.length < sizeLine then some (xs ++ [a], .imm .none) else none
    | _ => none
  | .reverse => match as with
    | [] => some (xs.reverse, .imm .none)
    | _ => none
  | .clear => match as with
    | [] => some ([], .imm .none)
    | _ => none
  | .insert => match as with
    | [.imm (.int i), a] => if 0 ≤ i ∧ i ≤ xs.length ∧ xs.length < sizeLine then some (xs.take i.toNat ++ a :: xs.drop i.toNat, .imm .none) else none
    | _ => none
  | _ => none
def muD (m : Mu) (d : D) (as : List D) : Option (D × D) := match d with
  | .lst xs => match muL m xs as with
    | some (ys, o) => some (.lst ys, o)
    | none => none
  | _ => none
/-- d with the place at the keys changed -/
def putAt (f : D → Option (D × D)) : List D → D → Option (D × D)
  | [], d => f d
  | .imm (.int i) :: ks, .lst xs => match ixN xs.length i with
    | some j => match xs[j]? with
      | some x => match putAt f ks x with
        | some (x', r) => some (.lst (xs.set j x'), r)
        | none => none
      | none => none
    | none => none
  | _, _ => none
def setD (k v : D) (d : D) : Option (D × D) := match d, k with
  | .lst xs, .imm (.int i) => match ixN xs.length i with
    | some j => some (.lst (xs.set j v), .imm .none)
    | none => none
  | _, _ => none

/-! ### syntax by eye -/
def isVar : E → Option Nat
  | .var i => some i
  | _ => none
/-- its value may stand in a slot still -/
def bw : E → Bool
  | .var _ => true
  | .idx a _ => bw a
  | .ite _ a b => bw a || bw b
  | .and _ b => bw b
  | .or _ b => bw b
  | _ => false
mutual
/-- nothing that stands is changed by it -/
def triv : E → Bool
  | .non | .bl _ | .int _ | .str _ | .var _ | .gc _ => true
  | .bin _ a b => triv a && triv b
  | .neg a => triv a
  | .cmp _ a b => triv a && triv b
  | .idx a i => triv a && triv i
  | .bi _ es => trivs es
  | _ => false
def trivs : List E → Bool
  | [] => true
  | e :: es => triv e && trivs es
end
def isImm : D → Bool
  | .imm _ => true
  | _ => false

/-! ### the evaluator -/
inductive CR where
  | ok (d : D) (fin : List D)
  | exn (x : Ex) (fin : List D)
  | stuck
structure Ctx where
  call : Nat → List D → CR
  fuel : Nat
  consts : List C
  rb : Nat → List Bool
def rd (i : Nat) (env : Env) : Option D := match env[i]? with
  | some (some d) => some d
  | _ => none
def R.bind {α β : Type} (r : R α) (f : α → Env → R β) : R β := match r with
  | .ok a env => f a env
  | .exn x env => .exn x env
  | .stuck => .stuck
def R.of {α : Type} (o : Option α) (env : Env) : R α := match o with
  | some a => .ok a env
  | none => .stuck
def wipeE (env : Env) : List Nat → Env
  | [] => env
  | v :: vs => (wipeE env vs).set v none
/-- the slots vs as they are in env0 -/
def backE (env0 env : Env) : List Nat → Env
  | [] => env
  | v :: vs => (backE env0 env vs).set v (env0[v]?.getD none)
mutual
/-- the slots that a target stores -/
def tgSlots : Tg → List Nat
  | .v i => [i]
  | .t ts => tgsSlots ts
def tgsSlots : List Tg → List Nat
  | [] => []
  | t :: ts => tgSlots t ++ tgsSlots ts
end
mutual
/-- the slots that a statement stores -/
def asgS : S → List Nat
  | .asg i _ => [i]
  | .unp ts _ => tgsSlots ts
  | .ifs _ a b => asgB a ++ asgB b
  | .fors tg _ body => tgSlots tg ++ asgB body
  | .whl _ body => asgB body
  | _ => []
def asgB : List S → List Nat
  | [] => []
  | s :: ss => asgS s ++ asgB ss
end
mutual
def bindTg : Tg → D → Env → Option Env
  | .v i, d, env => if i < env.length then some (env.set i (some d)) else none
  | .t ts, .imm (.tuple cs), env => bindTgs ts cs env
  | .t _, _, _ => none
def bindTgs : List Tg → List C → Env → Option Env
  | [], [], env => some env
  | t :: ts, c :: cs, env => match bindTg t (.imm c) env with
    | some env' => bindTgs ts cs env'
    | none => none
  | _, _, _ => none
end
/-- the arguments go back to where they were borrowed -/
def giveBack : List E → List Bool → List D → Env → Option Env
  | .var i :: es, rb :: rbs, d :: ds, env => match rd i env with
    | some old => match isImm old, rb with
      | true, _ => giveBack es rbs ds env
      | false, true => none
      | false, false => giveBack es rbs ds (env.set i (some d))
    | none => none
  | _ :: es, _ :: rbs, _ :: ds, env => giveBack es rbs ds env
  | [], [], [], env => some env
  | _, _, _, _ => none
def varsOf : List E → List Nat
  | [] => []
  | .var i :: es => i :: varsOf es
  | _ :: es => varsOf es
/-- no changeable thing is lent twice -/
def lendOk : List E → Env → Bool
  | [], _ => true
  | .var i :: es, env => (match rd i env with | some d => isImm d || !(varsOf es).contains i | none => false) && lendOk es env
  | _ :: es, env => lendOk es env

noncomputable section
open Classical
/-- a comprehension's turns -/
def compGo (one : D → Env → R (Option D)) (chk : Env → Prop) : List D → List D → Env → R (List D)
  | [], acc, env => if chk env then .ok acc env else .stuck
  | x :: xs, acc, env => if chk env then
      (match one x env with
      | .ok (some d) env' => if acc.length < sizeLine then compGo one chk xs (acc ++ [d]) env' else .stuck
      | .ok none env' => compGo one chk xs acc env'
      | _ => .stuck)
    else .stuck
/-- an expression by eye, and what it does -/
abbrev Dn := E × (Env → R D)
/-- operands, from the left; a bare name is read behind the others -/
def evL : List Dn → Env → R (List D)
  | [], env => .ok [] env
  | (e, f) :: es, env => match isVar e with
    | some i => match rd i env with
      | some _ => (evL es env).bind fun ds env' => match rd i env' with
        | some d => .ok (d :: ds) env'
        | none => .stuck
      | none => .stuck
    | none => (f env).bind fun d env1 => if isImm d || !bw e || trivs (es.map (·.1)) then (evL es env1).bind fun ds env2 => .ok (d :: ds) env2 else .stuck
/-- one to be kept -/
def evOne (p : Dn) (env : Env) : R D := (p.2 env).bind fun d env' => if isImm d || !bw p.1 then .ok d env' else .stuck
/-- things to be kept, from the left -/
def evO : List Dn → Env → R (List D)
  | [], env => .ok [] env
  | p :: es, env => (evOne p env).bind fun d env1 => (evO es env1).bind fun ds env2 => .ok (d :: ds) env2
/-- arguments: a bare name is lent -/
def evA : List Dn → Env → R (List D)
  | [], env => .ok [] env
  | (e, f) :: es, env => match isVar e with
    | some i => match rd i env with
      | some _ => (evA es env).bind fun ds env' => match rd i env' with
        | some d => .ok (d :: ds) env'
        | none => .stuck
      | none => .stuck
    | none => (evOne (e, f) env).bind fun d env1 => (evA es env1).bind fun ds env2 => .ok (d :: ds) env2
def evMv (i : Nat) (env : Env) : R D := match rd i env with
  | some (.imm c) => .ok (.imm c) env
  | some d => .ok d (env.set i none)
  | none => .stuck
def evFz (i : Nat) (env : Env) : R D := match rd i env with
  | some (.imm c) => .ok (.imm c) env
  | some d => match d.c? with
    | some c => .ok (.imm c) (env.set i (some (.imm c)))
    | none => .stuck
  | none => .stuck
/-- two operands -/
def ev2 (p q : Dn) (k : D → D → Option D) (env : Env) : R D := (evL [p, q] env).bind fun ds env' => match ds with
  | [x, y] => .of (k x y) env'
  | _ => .stuck
def evChain (o o' : CmpOp) (p q r : Dn) (env : Env) : R D := (evL [p, q] env).bind fun ds env' => match ds with
  | [x, .imm cy] => match cmpD o x (.imm cy) with
    | some true => (r.2 env').bind fun z env2 => .of ((cmpD o' (.imm cy) z).map fun b => .imm (.bool b)) env2
    | some false => .ok (.imm (.bool false)) env'
    | none => .stuck
  | _ => .stuck
/-- by a truth -/
def evIf {α : Type} (c : R D) (a b : Env → R α) : R α := c.bind fun d env' => match d with
  | .imm (.bool true) => a env'
  | .imm (.bool false) => b env'
  | _ => .stuck
/-- an operation on operands -/
def evN (ps : List Dn) (k : List D → Option D) (env : Env) : R D := (evL ps env).bind fun ds env' => .of (k ds) env'
/-- behind the lower end of a slice -/
def evHi (x : D) (l : Option Int) (hi : Option Dn) (env : Env) : R D := match hi with
  | none => .of (sliceD x l none) env
  | some q => if isImm x || triv q.1 then (q.2 env).bind fun d env2 => match d with
      | .imm (.int j) => .of (sliceD x l (some j)) env2
      | _ => .stuck
    else .stuck
def evSlc (p : Dn) (lo hi : Option Dn) (env : Env) : R D := match lo with
  | none => (evL [p] env).bind fun ds env' => match ds with
    | [x] => evHi x none hi env'
    | _ => .stuck
  | some q => (evL [p, q] env).bind fun ds env' => match ds with
    | [x, .imm (.int i)] => evHi x (some i) hi env'
    | _ => .stuck
def evCall (X : Ctx) (f : Nat) (ps : List Dn) (env : Env) : R D := (evA ps env).bind fun ds env' => if lendOk (ps.map (·.1)) env' then
    (match X.call f ds with
    | .ok d fin => match giveBack (ps.map (·.1)) (X.rb f) fin env' with
      | some env2 => .ok d env2
      | none => .stuck
    | .exn x fin => match giveBack (ps.map (·.1)) (X.rb f) fin env' with
      | some env2 => .exn x env2
      | none => .stuck
    | .stuck => .stuck)
  else .stuck
def isLst : D → Bool
  | .lst _ => true
  | _ => false
def evMut (m : Mu) (r : Nat) (ks es : List Dn) (env : Env) : R D := match ks with
  | [] => match rd r env with
    | some d0 => if isLst d0 then (evO es env).bind fun ds env2 => match rd r env2 with
        | some d => match muD m d ds with
          | some (d', out) => .ok out (env2.set r (some d'))
          | none => .stuck
        | none => .stuck
      else .stuck
    | none => .stuck
  | _ => .stuck
/-- one turn of a comprehension -/
def compOne (elt : Dn) (tg : Tg) (cond : Option Dn) (own : List Nat) (x : D) (env : Env) : R (Option D) := match bindTg tg x env with
  | some env' => match cond with
    | none => (evOne elt env').bind fun d env2 => .ok (some d) (wipeE env2 own)
    | some c => evIf (c.2 env') (fun env2 => (evOne elt env2).bind fun d env3 => .ok (some d) (wipeE env3 own)) fun env2 => .ok none (wipeE env2 own)
  | none => .stuck
def evComp (elt : Dn) (tg : Tg) (it : Env → R (List D × (Env → Prop))) (cond : Option Dn) (own : List Nat) (env : Env) : R D := (it env).bind fun p env1 =>
  (compGo (compOne elt tg cond own) p.2 p.1 [] (wipeE env1 own)).bind fun ds env2 => .ok (.lst ds) (backE env1 env2 own)
/-- what is walked: its items, and what has to hold at each turn -/
def itSeq (A : List Nat) (p : Dn) (env : Env) : R (List D × (Env → Prop)) := (p.2 env).bind fun d env' => match d with
  | .imm (.tuple cs) => .ok (cs.map .imm, fun _ => True) env'
  | .imm (.list cs) => .ok (cs.map .imm, fun _ => True) env'
  | .lst xs => match imms xs with
    | some cs => match isVar p.1 with
      | some i => if A.contains i then .stuck else .ok (cs.map .imm, fun env => rd i env = some (.lst xs)) env'
      | none => if bw p.1 then .stuck else .ok (cs.map .imm, fun _ => True) env'
    | none => .stuck
  | _ => .stuck
def rangeL (a : Int) (n : Nat) : List D := (List.range n).map fun (i : Nat) => .imm (.int (a + (i : Int)))
def okR (a : Int) : Bool := decide (-(2 ^ 62) ≤ a ∧ a < 2 ^ 62)
def itRange (ps : List Dn) (env : Env) : R (List D × (Env → Prop)) := (evL ps env).bind fun ds env' => match ds with
  | [.imm (.int n)] => if okR n then .ok (rangeL 0 n.toNat, fun _ => True) env' else .stuck
  | [.imm (.int a), .imm (.int b)] => if okR a && okR b then .ok (rangeL a (b - a).toNat, fun _ => True) env' else .stuck
  | _ => .stuck
/-- downwards by one -/
def rangeD (a : Int) (n : Nat) : List D := (List.range n).map fun (i : Nat) => .imm (.int (a + (i : Int) * (-1)))
def itDown (ps : List Dn) (env : Env) : R (List D × (Env → Prop)) := (evL ps env).bind fun ds env' => match ds with
  | [.imm (.int a), .imm (.int b), .imm (.int c)] => if okR a && okR b && c == -1 then .ok (rangeD a (a - b).toNat, fun _ => True) env' else .stuck
  | _ => .stuck
/-- one of two that are walked together: a tuple or not, the contents, what has to hold -/
def zSide (A : List Nat) (e : E) (d : D) : Option (Bool × List C × (Env → Prop)) := match d with
  | .imm (.tuple cs) => some (true, cs, fun _ => True)
  | .imm (.list cs) => some (false, cs, fun _ => True)
  | .lst xs => match imms xs, isVar e with
    | some cs, some i => if A.contains i then none else some (false, cs, fun env => rd i env = some (.lst xs))
    | _, _ => none
  | _ => none
def pairs : List C → List C → List D
  | a :: as, b :: bs => .imm (.tuple [a, b]) :: pairs as bs
  | _, _ => []
def itZip (A : List Nat) (p q : Dn) (env : Env) : R (List D × (Env → Prop)) := (p.2 env).bind fun x env1 => (q.2 env1).bind fun y env2 =>
  if isImm x || triv q.1 then
    (match zSide A p.1 x, zSide A q.1 y with
    | some (true, cs, c1), some (true, ds, c2) => .ok (pairs cs ds, fun env => c1 env ∧ c2 env) env2
    | some (false, cs, c1), some (false, ds, c2) => .ok (pairs cs ds, fun env => c1 env ∧ c2 env) env2
    | _, _ => .stuck)
  else .stuck
mutual
def evE (X : Ctx) : E → Env → R D
  | .non => fun env => .ok (.imm .none) env
  | .bl b => fun env => .ok (.imm (.bool b)) env
  | .int i => fun env => .ok (.imm (.int i)) env
  | .str s => fun env => .ok (.imm (.str s)) env
  | .var i => fun env => .of (rd i env) env
  | .mv i => evMv i
  | .fz i => evFz i
  | .gc g => fun env => .of (X.consts[g]?.map .imm) env
  | .bin o a b => ev2 (a, evE X a) (b, evE X b) (binD o)
  | .neg a => fun env => (evE X a env).bind fun d env' => match d with
    | .imm (.int i) => .ok (.imm (.int (-i))) env'
    | _ => .stuck
  | .not a => fun env => evIf (evE X a env) (fun env' => .ok (.imm (.bool false)) env') fun env' => .ok (.imm (.bool true)) env'
  | .cmp o a b => ev2 (a, evE X a) (b, evE X b) fun x y => (cmpD o x y).map fun b => .imm (.bool b)
  | .chain o o' a b c => evChain o o' (a, evE X a) (b, evE X b) (c, evE X c)
  | .and a b => fun env => evIf (evE X a env) (evE X b) fun env' => .ok (.imm (.bool false)) env'
  | .or a b => fun env => evIf (evE X a env) (fun env' => .ok (.imm (.bool true)) env') (evE X b)
  | .ite c a b => fun env => evIf (evE X c env) (evE X a) (evE X b)
  | .tup es => fun env => (evO (evs X es) env).bind fun ds env' => if ds.length ≤ sizeLine then .ok (mkTup ds) env' else .stuck
  | .lst es => fun env => (evO (evs X es) env).bind fun ds env' => if ds.length ≤ sizeLine then .ok (.lst ds) env' else .stuck
  | .dct k ks vs => fun env => match ks, vs with
    | [], [] => .ok (.dct k []) env
    | _, _ => .stuck
  | .idx a i => ev2 (a, evE X a) (i, evE X i) D.item?
  | .slc a lo hi => evSlc (a, evE X a) (evo X lo) (evo X hi)
  | .bi b es => evN (evs X es) (biD b)
  | .call f es => evCall X f (evs X es)
  | .mut m r ks es => evMut m r (evs X ks) (evs X es)
  | .comp elt tg it cond own => evComp (elt, evE X elt) tg (evI X it own) (evo X cond) own
  | .isi _ _ => fun _ => .stuck
def evs (X : Ctx) : List E → List Dn
  | [] => []
  | e :: es => (e, evE X e) :: evs X es
def evo (X : Ctx) : Option E → Option Dn
  | none => none
  | some e => some (e, evE X e)
def evI (X : Ctx) : It → List Nat → Env → R (List D × (Env → Prop))
  | .seq e => fun A => itSeq A (e, evE X e)
  | .range es => fun _ => itRange (evs X es)
  | .enum _ => fun _ _ => .stuck
  | .zip a b => fun A => itZip A (a, evE X a) (b, evE X b)
  | .down es => fun _ => itDown (evs X es)
end
/-- statements' ends -/
inductive O where
  | nx (env : Env)
  | bk (env : Env)
  | rt (d : D) (env : Env)
  | exn (x : Ex) (env : Env)
  | stuck
def R.out {α : Type} (r : R α) (f : α → Env → O) : O := match r with
  | .ok a env => f a env
  | .exn x env => .exn x env
  | .stuck => .stuck
def forGo (one : D → Env → O) (chk : Env → Prop) : List D → Env → O
  | [], env => if chk env then .nx env else .stuck
  | x :: xs, env => if chk env then
      (match one x env with
      | .nx env' => forGo one chk xs env'
      | .bk env' => .nx env'
      | o => o)
    else .stuck
def whlGo (c : Env → R D) (one : Env → O) : Nat → Env → O
  | 0, _ => .stuck
  | n + 1, env => (c env).out fun d env' => match d with
    | .imm (.bool true) => match one env' with
      | .nx env2 => whlGo c one n env2
      | .bk env2 => .nx env2
      | o => o
    | .imm (.bool false) => .nx env'
    | _ => .stuck
def stAsg (i : Nat) (p : Dn) (env : Env) : O := (evOne p env).out fun d env' => if i < env'.length then .nx (env'.set i (some d)) else .stuck
def stUnp (ts : List Tg) (p : Dn) (env : Env) : O := (evOne p env).out fun d env' => match bindTg (.t ts) d env' with
  | some env2 => .nx env2
  | none => .stuck
def stSet (r : Nat) (ks : List Dn) (i p : Dn) (env : Env) : O := (evOne p env).out fun v env1 => match rd r env1 with
  | some _ => (evL ks env1).out fun kds env2 => (i.2 env2).out fun k env3 =>
    if ks.isEmpty || (trivs (ks.map (·.1)) && triv i.1) then
      (match rd r env3 with
      | some d => match putAt (fun x => setD k v x) kds d with
        | some (d', _) => .nx (env3.set r (some d'))
        | none => .stuck
      | none => .stuck)
    else .stuck
  | none => .stuck
def stIf (c : R D) (a b : Env → O) : O := c.out fun d env' => match d with
  | .imm (.bool true) => a env'
  | .imm (.bool false) => b env'
  | _ => .stuck
def stFor (tg : Tg) (it : Env → R (List D × (Env → Prop))) (body : Env → O) (env : Env) : O := (it env).out fun p env' => forGo (fun x env => match bindTg tg x env with
  | some env2 => body env2
  | none => .stuck) p.2 p.1 env'
def stRaise (cls : Nat) (ps : List Dn) (env : Env) : O := (evO ps env).out fun ds env' => match imms ds with
  | some cs => .exn ⟨cls, cs⟩ env'
  | none => .stuck
def oSeq (a : O) (b : Env → O) : O := match a with
  | .nx env' => b env'
  | o => o
mutual
def exS (X : Ctx) : S → Env → O
  | .asg i e => stAsg i (e, evE X e)
  | .unp ts e => stUnp ts (e, evE X e)
  | .setI r ks i e => stSet r (evs X ks) (i, evE X i) (e, evE X e)
  | .ex e => fun env => (evE X e env).out fun _ env' => .nx env'
  | .ifs c a b => fun env => stIf (evE X c env) (exB X a) (exB X b)
  | .fors tg it body => stFor tg (evI X it (tgSlots tg ++ asgB body)) (exB X body)
  | .whl c body => whlGo (evE X c) (exB X body) X.fuel
  | .ret e => fun env => (evOne (e, evE X e) env).out fun d env' => .rt d env'
  | .retN => fun env => .rt (.imm .none) env
  | .rais cls es => stRaise cls (evs X es)
  | .pass => fun env => .nx env
  | .brk => fun env => .bk env
def exB (X : Ctx) : List S → Env → O
  | [] => fun env => .nx env
  | s :: ss => fun env => oSeq (exS X s env) (exB X ss)
end
/-- the parameters at the end -/
def finals : Nat → Env → Option (List D)
  | 0, _ => some []
  | n + 1, env => match env with
    | some d :: r => (finals n r).map (d :: ·)
    | _ => none
def runFn (fns : List FnDef) (consts : List C) (fuel : Nat) : Nat → Nat → List D → CR
  | 0, _, _ => .stuck
  | n + 1, f, ds => match fns[f]? with
    | some fd => if ds.length = fd.np then
        (match exB { call := runFn fns consts fuel n, fuel := fuel, consts := consts, rb := fun g => (fns[g]?.map FnDef.rb).getD [] } fd.body (ds.map some ++ List.replicate (fd.ns - fd.np) none) with
        | .nx env => match finals fd.np env with
          | some fin => .ok (.imm .none) fin
          | none => .stuck
        | .rt d env => match finals fd.np env with
          | some fin => .ok d fin
          | none => .stuck
        | .exn x env => match finals fd.np env with
          | some fin => .exn x fin
          | none => .stuck
        | _ => .stuck)
      else .stuck
    | none => .stuck
end
end VS

/-! VS2: trees with their addresses over the layer's heap; what an evaluation leaves. -/
set_option linter.all false
set_option autoImplicit false
set_option maxRecDepth 100000
namespace VS
open PySem PySem.Spec PyProof.Rows L2
abbrev Sl := L2.St

inductive T where
  | imm (v : V) (c : C)
  | lst (a : Addr) (xs : List T)
  | dct (a : Addr) (k : Bool) (ks : List C) (xs : List T)
  | tup (a : Addr) (xs : List T)
def T.val : T → V
  | .imm v _ => v
  | .lst a _ => .ref a
  | .dct a _ _ _ => .ref a
  | .tup a _ => .ref a
mutual
def T.er : T → D
  | .imm _ c => .imm c
  | .lst _ xs => .lst (ers xs)
  | .dct _ k ks xs => .dct k (ks.zip (ers xs))
  | .tup _ xs => .tup (ers xs)
def ers : List T → List D
  | [] => []
  | t :: ts => t.er :: ers ts
end
theorem ers_map : ∀ ts : List T, ers ts = ts.map T.er
  | [] => rfl
  | t :: ts => by rw [ers, ers_map ts]; rfl
mutual
def T.cnt (b : Addr) : T → Nat
  | .imm _ _ => 0
  | .lst a xs => (if b = a then 1 else 0) + cnts b xs
  | .dct a _ _ xs => (if b = a then 1 else 0) + cnts b xs
  | .tup _ xs => cnts b xs
def cnts (b : Addr) : List T → Nat
  | [] => 0
  | t :: ts => t.cnt b + cnts b ts
end
abbrev vals (ts : List T) : List V := ts.map T.val
theorem cnts_append (b : Addr) : ∀ xs ys : List T, cnts b (xs ++ ys) = cnts b xs + cnts b ys
  | [], ys => by simp [cnts]
  | x :: xs, ys => by rw [List.cons_append, cnts, cnts, cnts_append b xs ys]; omega
theorem cnts_le (b : Addr) : ∀ {ts : List T} {i : Nat} {t : T}, ts[i]? = some t → t.cnt b ≤ cnts b ts
  | [], i, t, h => by simp at h
  | x :: xs, 0, t, h => by simp at h; subst h; rw [cnts]; omega
  | x :: xs, i + 1, t, h => by
    have := cnts_le b (ts := xs) (i := i) (t := t) (by simpa using h)
    rw [cnts]; omega
theorem cnts_set (b : Addr) : ∀ {ts : List T} {i : Nat} {t : T} (u : T), ts[i]? = some t → cnts b (ts.set i u) + t.cnt b = cnts b ts + u.cnt b
  | [], i, t, u, h => by simp at h
  | x :: xs, 0, t, u, h => by simp at h; subst h; rw [List.set_cons_zero, cnts, cnts]; omega
  | x :: xs, i + 1, t, u, h => by
    have := cnts_set b (ts := xs) (i := i) (t := t) u (by simpa using h)
    rw [List.set_cons_succ, cnts, cnts]; omega

/-! ### contents in the heap -/
section
variable (K : PySem.W.Frag) (Z : Addr → Prop) (H : Hp)
/-- a list that no longer changes -/
def SqZ (a : Addr) (xs : List V) : Prop := (Z a ∧ H a = some (.lst xs)) ∨ (∃ o, H a = some (.frz o (.lst xs))) ∨
  ∃ (o : Obj) (its : Array Value) (n : Nat), K.lookup a = some o ∧ o.cls = .type "list" ∧ o.dict = none ∧ o.data = .seq its n ∧ its.size ≤ sizeLine ∧ Vals xs its.toList
mutual
inductive RC : V → C → Prop
  | non : RC .non .none
  | bl (b : Bool) : RC (.bl b) (.bool b)
  | int (i : Int) : RC (.int i) (.int i)
  | str (s : Str) : RC (.str s) (.str s)
  | lst {a : Addr} {xs : List V} {cs : List C} : SqZ K Z H a xs → RCs xs cs → RC (.ref a) (.list cs)
  | tup {a : Addr} {xs : List V} {cs : List C} : SqT K H a xs → RCs xs cs → RC (.ref a) (.tuple cs)
inductive RCs : List V → List C → Prop
  | nil : RCs [] []
  | cons {v : V} {vs : List V} {c : C} {cs : List C} : RC v c → RCs vs cs → RCs (v :: vs) (c :: cs)
end
mutual
inductive Holds : T → Prop
  | imm {v : V} {c : C} : RC K Z H v c → Holds (.imm v c)
  | lst {a : Addr} {xs : List T} : H a = some (.lst (vals xs)) → ¬ Z a → HoldsL xs → Holds (.lst a xs)
  | dctK {a : Addr} {keys : List Key} {ks : List C} {xs : List T} : H a = some (.dK (keys.zip (vals xs))) → ks = keys.map (fun k => match k with | .inl i => .int i | .inr s => .str s) → ks.length = xs.length → ¬ Z a → HoldsL xs → Holds (.dct a false ks xs)
  | tup {a : Addr} {xs : List T} : H a = some (.tup (vals xs)) → HoldsL xs → Holds (.tup a xs)
inductive HoldsL : List T → Prop
  | nil : HoldsL []
  | cons {t : T} {ts : List T} : Holds t → HoldsL ts → HoldsL (t :: ts)
end
end
section
variable {K : PySem.W.Frag} {Z Z' : Addr → Prop} {H H' : Hp}
theorem SqZ.sq {a : Addr} {xs : List V} (h : SqZ K Z H a xs) : SqL K H a xs := by
  rcases h with ⟨_, h⟩ | h | h
  · exact .inl (.inl h)
  · exact .inl (.inr h)
  · exact .inr h
theorem RCs.length : ∀ {vs : List V} {cs : List C}, RCs K Z H vs cs → vs.length = cs.length
  | _, _, .nil => rfl
  | _, _, .cons _ h => by simp [RCs.length h]
mutual
theorem RC.dp : ∀ {v : V} {c : C}, RC K Z H v c → Dp K H v c
  | _, _, .non => .non
  | _, _, .bl b => .bl b
  | _, _, .int i => .int i
  | _, _, .str s => .str s
  | _, _, .lst h r => .lst h.sq r.dps
  | _, _, .tup h r => .tup h r.dps
theorem RCs.dps : ∀ {vs : List V} {cs : List C}, RCs K Z H vs cs → DpAll K H vs cs
  | _, _, .nil => .nil
  | _, _, .cons h r => .cons h.dp r.dps
end
theorem RCs.append : ∀ {vs ws : List V} {cs ds : List C}, RCs K Z H vs cs → RCs K Z H ws ds → RCs K Z H (vs ++ ws) (cs ++ ds)
  | _, _, _, _, .nil, s => s
  | _, _, _, _, .cons h r, s => .cons h (r.append s)
theorem RCs.get : ∀ {vs : List V} {cs : List C} {i : Nat} {v : V}, RCs K Z H vs cs → vs[i]? = some v → ∃ c, cs[i]? = some c ∧ RC K Z H v c
  | _, _, i, v, .nil, e => by simp at e
  | _, _, 0, v, .cons h _, e => by simp at e; subst e; exact ⟨_, rfl, h⟩
  | _, _, i + 1, v, .cons _ r, e => by
    obtain ⟨c, h1, h2⟩ := r.get (i := i) (v := v) (by simpa using e)
    exact ⟨c, by simpa using h1, h2⟩
theorem RCs.getC : ∀ {vs : List V} {cs : List C} {i : Nat} {c : C}, RCs K Z H vs cs → cs[i]? = some c → ∃ v, vs[i]? = some v ∧ RC K Z H v c
  | _, _, i, v, .nil, e => by simp at e
  | _, _, 0, v, .cons h _, e => by simp at e; subst e; exact ⟨_, rfl, h⟩
  | _, _, i + 1, v, .cons _ r, e => by
    obtain ⟨c, h1, h2⟩ := r.getC (i := i) (by simpa using e)
    exact ⟨c, by simpa using h1, h2⟩
theorem RCs.take : ∀ {vs : List V} {cs : List C} (n : Nat), RCs K Z H vs cs → RCs K Z H (vs.take n) (cs.take n)
  | _, _, 0, _ => .nil
  | _, _, _ + 1, .nil => .nil
  | _, _, n + 1, .cons h r => .cons h (r.take n)
theorem RCs.drop : ∀ {vs : List V} {cs : List C} (n : Nat), RCs K Z H vs cs → RCs K Z H (vs.drop n) (cs.drop n)
  | _, _, 0, r => r
  | _, _, _ + 1, .nil => .nil
  | _, _, n + 1, .cons _ r => r.drop n
theorem HoldsL.all : ∀ {ts : List T}, HoldsL K Z H ts → ∀ t ∈ ts, Holds K Z H t
  | _, .nil, t, h => by simp at h
  | _, .cons h r, t, hm => by
    rcases List.mem_cons.mp hm with e | hm
    · rw [e]; exact h
    · exact r.all t hm
theorem HoldsL.of : ∀ {ts : List T}, (∀ t ∈ ts, Holds K Z H t) → HoldsL K Z H ts
  | [], _ => .nil
  | t :: ts, h => .cons (h t List.mem_cons_self) (.of fun u hu => h u (List.mem_cons_of_mem _ hu))
theorem HoldsL.append {ts us : List T} (a : HoldsL K Z H ts) (b : HoldsL K Z H us) : HoldsL K Z H (ts ++ us) := .of fun t ht => by
  rcases List.mem_append.mp ht with h | h
  · exact a.all t h
  · exact b.all t h
theorem HoldsL.get {ts : List T} {i : Nat} {t : T} (h : HoldsL K Z H ts) (e : ts[i]? = some t) : Holds K Z H t := h.all t (List.mem_of_getElem? e)
theorem HoldsL.set {ts : List T} {i : Nat} {t : T} (h : HoldsL K Z H ts) (u : Holds K Z H t) : HoldsL K Z H (ts.set i t) := .of fun x hx => by
  rcases List.mem_or_eq_of_mem_set hx with e | e
  · exact h.all x e
  · rw [e]; exact u

/-- an object that may change -/
def MutH (H : Hp) (a : Addr) : Prop := (∃ xs, H a = some (.lst xs)) ∨ (∃ kvs, H a = some (.dK kvs)) ∨ ∃ kvs, H a = some (.dT kvs)
theorem MutH.some {a : Addr} (h : MutH H a) : H a ≠ none := by
  rcases h with ⟨_, h⟩ | ⟨_, h⟩ | ⟨_, h⟩ <;> rw [h] <;> simp
mutual
theorem Holds.own : ∀ {t : T} {b : Addr}, Holds K Z H t → 0 < t.cnt b → ¬ Z b ∧ MutH H b
  | _, b, .imm _, h => by simp [T.cnt] at h
  | _, b, .lst (a := a) h1 h2 h3, h => by
    rw [T.cnt] at h
    by_cases e : b = a
    · subst e; exact ⟨h2, .inl ⟨_, h1⟩⟩
    · rw [if_neg e] at h
      exact h3.own (by omega)
  | _, b, .dctK (a := a) h1 _ _ h2 h3, h => by
    rw [T.cnt] at h
    by_cases e : b = a
    · subst e; exact ⟨h2, .inr (.inl ⟨_, h1⟩)⟩
    · rw [if_neg e] at h
      exact h3.own (by omega)
  | _, b, .tup h1 h3, h => by
    rw [T.cnt] at h
    exact h3.own h
theorem HoldsL.own : ∀ {ts : List T} {b : Addr}, HoldsL K Z H ts → 0 < cnts b ts → ¬ Z b ∧ MutH H b
  | _, b, .nil, h => by simp [cnts] at h
  | t :: ts, b, .cons h1 h2, h => by
    rw [cnts] at h
    by_cases e : 0 < T.cnt b t
    · exact h1.own e
    · exact h2.own (by omega)
end

/-! ### what a piece of code leaves of the heap -/
/-- what is frozen stands -/
def ZOk (Z : Addr → Prop) (H : Hp) : Prop := ∀ a, Z a → H a ≠ none
structure W (Z : Addr → Prop) (H : Hp) (S : Addr → Prop) (Z' : Addr → Prop) (H' : Hp) : Prop where
  fr : ∀ a o, H a = some o → ¬ S a → H' a = some o
  gr : ∀ a, H' a = none → H a = none
  zs : ∀ a, Z a → Z' a
  zn : ∀ a, Z' a → Z a ∨ S a ∨ H a = none
  ze : ZOk Z H → ZOk Z' H'
variable {S S1 : Addr → Prop} {Z1 Z2 : Addr → Prop} {H1 H2 : Hp}
theorem W.refl : W Z H S Z H := ⟨fun _ _ h _ => h, fun _ h => h, fun _ h => h, fun _ h => .inl h, fun h => h⟩
theorem W.trans (a : W Z H S Z1 H1) (b : W Z1 H1 S1 Z2 H2) (hs : ∀ x, S1 x → S x ∨ H x = none) : W Z H S Z2 H2 where
  fr := fun x o e n => b.fr x o (a.fr x o e n) fun z => by
    rcases hs x z with q | q
    · exact n q
    · rw [e] at q; cases q
  gr := fun x e => a.gr x (b.gr x e)
  zs := fun x z => b.zs x (a.zs x z)
  zn := fun x z => by
    rcases b.zn x z with q | q | q
    · exact a.zn x q
    · rcases hs x q with r | r
      · exact .inr (.inl r)
      · exact .inr (.inr r)
    · exact .inr (.inr (a.gr x q))
  ze := fun z => b.ze (a.ze z)
theorem W.mono (a : W Z H S Z1 H1) (hs : ∀ x, S x → S1 x) : W Z H S1 Z1 H1 :=
  ⟨fun x o e n => a.fr x o e fun z => n (hs x z), a.gr, a.zs, fun x z => (a.zn x z).imp_right fun q => q.imp_left (hs x), a.ze⟩
/-- a new object -/
theorem W.new {p : Addr} {o : HO} (hp : H p = none) : W Z H S Z (upd H p o) where
  fr := fun a u e _ => by rw [upd_ne (ne_of_none e hp)]; exact e
  gr := fun a e => by
    by_cases h : a = p
    · subst h; exact hp
    · rwa [upd_ne h] at e
  zs := fun _ h => h
  zn := fun _ h => .inl h
  ze := fun z a ha => by
    by_cases h : a = p
    · subst h; rw [upd_same]; simp
    · rw [upd_ne h]; exact z a ha
/-- a new object that is frozen at once -/
theorem W.newZ {p : Addr} {o : HO} (hp : H p = none) : W Z H S (fun x => Z x ∨ x = p) (upd H p o) where
  fr := (W.new (Z := Z) (S := S) hp).fr
  gr := (W.new (Z := Z) (S := S) hp).gr
  zs := fun _ h => .inl h
  zn := fun x h => by
    rcases h with h | h
    · exact .inl h
    · subst h; exact .inr (.inr hp)
  ze := fun z a ha => by
    by_cases h : a = p
    · subst h; rw [upd_same]; simp
    · rw [upd_ne h]; exact z a (ha.resolve_right h)
/-- an object of S changed -/
theorem W.put {p : Addr} {o u : HO} (hp : H p = some u) (hs : S p) : W Z H S Z (upd H p o) where
  fr := fun a v e n => by rw [upd_ne (fun z => n (by rw [z]; exact hs))]; exact e
  gr := fun a e => by
    by_cases h : a = p
    · subst h; rw [upd_same] at e; cases e
    · rwa [upd_ne h] at e
  zs := fun _ h => h
  zn := fun _ h => .inl h
  ze := fun z a ha => by
    by_cases h : a = p
    · subst h; rw [upd_same]; simp
    · rw [upd_ne h]; exact z a ha
/-- things of S frozen -/
theorem W.freeze {F : Addr → Prop} (hf : ∀ a, F a → S a) (hn : ∀ a, F a → H a ≠ none) : W Z H S (fun a => Z a ∨ F a) H where
  fr := fun _ _ e _ => e
  gr := fun _ e => e
  zs := fun _ h => .inl h
  zn := fun a h => by
    rcases h with h | h
    · exact .inl h
    · exact .inr (.inl (hf a h))
  ze := fun z a ha => ha.elim (z a) (hn a)
/-- S holds only what may change and is not frozen -/
def Soft (Z : Addr → Prop) (H : Hp) (S : Addr → Prop) : Prop := ∀ a, S a → ¬ Z a ∧ MutH H a
theorem W.sqT (w : W Z H S Z' H') (hs : Soft Z H S) {a : Addr} {xs : List V} (h : SqT K H a xs) : SqT K H' a xs := by
  rcases h with (h | ⟨o, h⟩) | h
  · refine .inl (.inl (w.fr _ _ h fun z => ?_))
    rcases (hs a z).2 with ⟨_, q⟩ | ⟨_, q⟩ | ⟨_, q⟩ <;> rw [h] at q <;> cases q
  · refine .inl (.inr ⟨o, w.fr _ _ h fun z => ?_⟩)
    rcases (hs a z).2 with ⟨_, q⟩ | ⟨_, q⟩ | ⟨_, q⟩ <;> rw [h] at q <;> cases q
  · exact .inr h
theorem W.sqZ (w : W Z H S Z' H') (hs : Soft Z H S) {a : Addr} {xs : List V} (h : SqZ K Z H a xs) : SqZ K Z' H' a xs := by
  rcases h with ⟨z, h⟩ | ⟨o, h⟩ | h
  · exact .inl ⟨w.zs a z, w.fr _ _ h fun q => (hs a q).1 z⟩
  · refine .inr (.inl ⟨o, w.fr _ _ h fun z => ?_⟩)
    rcases (hs a z).2 with ⟨_, q⟩ | ⟨_, q⟩ | ⟨_, q⟩ <;> rw [h] at q <;> cases q
  · exact .inr (.inr h)
mutual
theorem RC.keep (w : W Z H S Z' H') (hs : Soft Z H S) : ∀ {v : V} {c : C}, RC K Z H v c → RC K Z' H' v c
  | _, _, .non => .non
  | _, _, .bl b => .bl b
  | _, _, .int i => .int i
  | _, _, .str s => .str s
  | _, _, .lst h r => .lst (w.sqZ hs h) (r.keep w hs)
  | _, _, .tup h r => .tup (w.sqT hs h) (r.keep w hs)
theorem RCs.keep (w : W Z H S Z' H') (hs : Soft Z H S) : ∀ {vs : List V} {cs : List C}, RCs K Z H vs cs → RCs K Z' H' vs cs
  | _, _, .nil => .nil
  | _, _, .cons h r => .cons (h.keep w hs) (r.keep w hs)
end
theorem notZ (w : W Z H S Z' H') {a : Addr} {o : HO} (e : H a = some o) (nz : ¬ Z a) (ns : ¬ S a) : ¬ Z' a := fun z => by
  rcases w.zn a z with q | q | q
  · exact nz q
  · exact ns q
  · rw [e] at q; cases q
mutual
theorem Holds.keep (w : W Z H S Z' H') (hs : Soft Z H S) : ∀ {t : T}, Holds K Z H t → (∀ a, 0 < t.cnt a → ¬ S a) → Holds K Z' H' t
  | _, .imm r, _ => .imm (r.keep w hs)
  | _, .lst (a := a) h1 h2 h3, n => by
    have na : ¬ S a := n a (by rw [T.cnt, if_pos rfl]; omega)
    exact .lst (w.fr _ _ h1 na) (notZ w h1 h2 na) (h3.keep w hs fun b hb => n b (by rw [T.cnt]; omega))
  | _, .dctK (a := a) h1 e l h2 h3, n => by
    have na : ¬ S a := n a (by rw [T.cnt, if_pos rfl]; omega)
    exact .dctK (w.fr _ _ h1 na) e l (notZ w h1 h2 na) (h3.keep w hs fun b hb => n b (by rw [T.cnt]; omega))
  | _, .tup (a := a) h1 h3, n => by
    refine .tup (w.fr _ _ h1 fun z => ?_) (h3.keep w hs fun b hb => n b (by rw [T.cnt]; omega))
    rcases (hs a z).2 with ⟨_, q⟩ | ⟨_, q⟩ | ⟨_, q⟩ <;> rw [h1] at q <;> cases q
theorem HoldsL.keep (w : W Z H S Z' H') (hs : Soft Z H S) : ∀ {ts : List T}, HoldsL K Z H ts → (∀ a, 0 < cnts a ts → ¬ S a) → HoldsL K Z' H' ts
  | _, .nil, _ => .nil
  | _, .cons h r, n => .cons (h.keep w hs fun a ha => n a (by rw [cnts]; omega)) (r.keep w hs fun a ha => n a (by rw [cnts]; omega))
end
end

/-! ### the slots -/
abbrev EnvT := List (Option T)
def erE : EnvT → Env := fun ev => ev.map (Option.map T.er)
def cntE (b : Addr) : EnvT → Nat
  | [] => 0
  | none :: r => cntE b r
  | some t :: r => t.cnt b + cntE b r
def oc (b : Addr) : Option T → Nat
  | none => 0
  | some t => t.cnt b
theorem cntE_cons (b : Addr) (o : Option T) (r : EnvT) : cntE b (o :: r) = oc b o + cntE b r := by cases o <;> simp [cntE, oc]
theorem cntE_le (b : Addr) : ∀ {ev : EnvT} {i : Nat} {o : Option T}, ev[i]? = some o → oc b o ≤ cntE b ev
  | [], i, o, h => by simp at h
  | x :: xs, 0, o, h => by simp at h; subst h; rw [cntE_cons]; omega
  | x :: xs, i + 1, o, h => by
    have := cntE_le b (ev := xs) (i := i) (o := o) (by simpa using h)
    rw [cntE_cons]; omega
theorem cntE_set (b : Addr) : ∀ {ev : EnvT} {i : Nat} {o : Option T} (u : Option T), ev[i]? = some o → cntE b (ev.set i u) + oc b o = cntE b ev + oc b u
  | [], i, o, u, h => by simp at h
  | x :: xs, 0, o, u, h => by simp at h; subst h; rw [List.set_cons_zero, cntE_cons, cntE_cons]; omega
  | x :: xs, i + 1, o, u, h => by
    have := cntE_set b (ev := xs) (i := i) (o := o) u (by simpa using h)
    rw [List.set_cons_succ, cntE_cons, cntE_cons]; omega
theorem erE_get {ev : EnvT} {i : Nat} : (erE ev)[i]? = (ev[i]?).map (Option.map T.er) := by simp [erE]
theorem erE_set {ev : EnvT} {i : Nat} {o : Option T} : erE (ev.set i o) = (erE ev).set i (o.map T.er) := by simp [erE, List.map_set]
theorem erE_length {ev : EnvT} : (erE ev).length = ev.length := by simp [erE]
theorem rd_some {ev : EnvT} {i : Nat} {d : D} (h : rd i (erE ev) = some d) : ∃ t, ev[i]? = some (some t) ∧ t.er = d := by
  unfold rd at h
  rw [erE_get] at h
  cases e : ev[i]? with
  | none => rw [e] at h; simp at h
  | some o =>
    cases o with
    | none => rw [e] at h; simp at h
    | some t => rw [e] at h; simp at h; exact ⟨t, rfl, h⟩

structure StOk (K : PySem.W.Frag) (Z : Addr → Prop) (H : Hp) (σ : Sl) (ev : EnvT) : Prop where
  len : σ.length = ev.length
  val : ∀ (i : Nat) (t : VS.T), ev[i]? = some (some t) → σ[i]? = some (some t.val)
  hold : ∀ (i : Nat) (t : VS.T), ev[i]? = some (some t) → Holds K Z H t
  one : ∀ a, cntE a ev ≤ 1
  zk : ZOk Z H
abbrev SE (ev : EnvT) : Addr → Prop := fun a => 0 < cntE a ev
section
variable {K : PySem.W.Frag} {Z Z' Z1 Z2 : Addr → Prop} {H H' H1 H2 : Hp} {σ : Sl} {ev ev' : EnvT}
theorem cntE_pos (b : Addr) : ∀ {ev : EnvT}, 0 < cntE b ev → ∃ (i : Nat) (t : T), ev[i]? = some (some t) ∧ 0 < t.cnt b
  | [], h => by simp [cntE] at h
  | none :: r, h => by
    obtain ⟨i, t, h1, h2⟩ := cntE_pos b (ev := r) (by simpa [cntE] using h)
    exact ⟨i + 1, t, by simpa using h1, h2⟩
  | some t :: r, h => by
    by_cases e : 0 < t.cnt b
    · exact ⟨0, t, rfl, e⟩
    · obtain ⟨i, u, h1, h2⟩ := cntE_pos b (ev := r) (by rw [cntE] at h; omega)
      exact ⟨i + 1, u, by simpa using h1, h2⟩
theorem StOk.soft (s : StOk K Z H σ ev) : Soft Z H (SE ev) := fun a h => by
  obtain ⟨i, t, h1, h2⟩ := cntE_pos a h
  exact (s.hold i t h1).own h2
theorem StOk.kept (s : StOk K Z H σ ev) {S : Addr → Prop} (w : W Z H S Z' H') (hs : Soft Z H S) (n : ∀ a, 0 < cntE a ev → ¬ S a) : StOk K Z' H' σ ev :=
  ⟨s.len, s.val, fun i t h => (s.hold i t h).keep w hs fun a ha => n a (by have := cntE_le a h; simp only [oc] at this; omega), s.one, w.ze s.zk⟩
end
end VS

/-! VS3: an expression's reading by the evaluator; operands one behind the other. -/
set_option linter.all false
set_option autoImplicit false
set_option maxRecDepth 100000
namespace VS
open PySem PySem.Spec PyProof.Rows L2

/-- how a raised thing lies, and what is wished of it at the slots -/
abbrev XRel := Ex → Value → Option Addr → (Addr → Prop) → Hp → Prop
abbrev WX' := Value → Option Addr → Sl → Hp → Prop
def own (e : E) (t : VS.T) (a : Addr) : Nat := if bw e = true then 0 else t.cnt a
def owns : List E → List VS.T → Addr → Nat
  | e :: es, t :: ts, a => own e t a + owns es ts a
  | _, _, _ => 0
section
variable (K : PySem.W.Frag) (XR : XRel) (Wx : WX')
structure AftX (Z : Addr → Prop) (H : Hp) (σ : Sl) (ev : EnvT) (Z' : Addr → Prop) (H' : Hp) (ev' : EnvT) : Prop where
  st : StOk K Z' H' σ ev'
  w : W Z H (SE ev) Z' H'
  old : ∀ a, H a ≠ none → cntE a ev' ≤ cntE a ev
structure Aft (e : E) (Z : Addr → Prop) (H : Hp) (σ : Sl) (ev : EnvT) (Z' : Addr → Prop) (H' : Hp) (ev' : EnvT) (t : VS.T) : Prop where
  st : StOk K Z' H' σ ev'
  hd : Holds K Z' H' t
  w : W Z H (SE ev) Z' H'
  tr : triv e = true → ev' = ev ∧ W Z H (fun _ => False) Z' H'
  old : ∀ a, H a ≠ none → cntE a ev' + own e t a ≤ cntE a ev
  new : ∀ a, H a = none → cntE a ev' + own e t a ≤ 1
  var : ∀ i, isVar e = some i → ev'[i]? = some (some t)
structure AftL (es : List E) (Z : Addr → Prop) (H : Hp) (σ : Sl) (ev : EnvT) (Z' : Addr → Prop) (H' : Hp) (ev' : EnvT) (ts : List VS.T) : Prop where
  st : StOk K Z' H' σ ev'
  hd : HoldsL K Z' H' ts
  w : W Z H (SE ev) Z' H'
  tr : trivs es = true → ev' = ev ∧ W Z H (fun _ => False) Z' H'
  old : ∀ a, H a ≠ none → cntE a ev' + owns es ts a ≤ cntE a ev
  new : ∀ a, H a = none → cntE a ev' + owns es ts a ≤ 1
  len : ts.length = es.length
def XC (Z : Addr → Prop) (H : Hp) (σ : Sl) (ev : EnvT) (x : Ex) (env' : Env) : Prop :=
  ∀ Z' H' ev' cls dd, erE ev' = env' → AftX K Z H σ ev Z' H' ev' → XR x cls dd Z' H' → Wx cls dd σ H'
def ER (e : E) (Z : Addr → Prop) (H : Hp) (σ : Sl) (ev : EnvT) (r : R D) (k : (Addr → Prop) → Hp → EnvT → VS.T → Prop) : Prop := match r with
  | .ok d env' => ∀ Z' H' ev' t, t.er = d → erE ev' = env' → Aft K e Z H σ ev Z' H' ev' t → k Z' H' ev' t
  | .exn x env' => XC K XR Wx Z H σ ev x env'
  | .stuck => False
def LR (es : List E) (Z : Addr → Prop) (H : Hp) (σ : Sl) (ev : EnvT) (r : R (List D)) (k : (Addr → Prop) → Hp → EnvT → List VS.T → Prop) : Prop := match r with
  | .ok ds env' => ∀ Z' H' ev' ts, ers ts = ds → erE ev' = env' → AftL K es Z H σ ev Z' H' ev' ts → k Z' H' ev' ts
  | .exn x env' => XC K XR Wx Z H σ ev x env'
  | .stuck => False
/-- the reading of an expression -/
def tE (p : Dn) : TE := fun σ H Q => ∃ Z ev, StOk K Z H σ ev ∧ ER K XR Wx p.1 Z H σ ev (p.2 (erE ev)) fun _ H' _ t => Q t.val H'
def tL (es : List E) (f : Env → R (List D)) : TA := fun σ H Q => ∃ Z ev, StOk K Z H σ ev ∧ LR K XR Wx es Z H σ ev (f (erE ev)) fun _ H' _ ts => Q (vals ts) H'
end
section
variable {K : PySem.W.Frag} {XR : XRel} {Wx : WX'} {Z Z' Z1 Z2 : Addr → Prop} {H H' H1 H2 : Hp} {σ : Sl} {ev ev' ev1 ev2 : EnvT}
theorem Soft.empty : Soft Z H (fun _ => False) := fun _ h => h.elim
theorem se_le (old : ∀ a, H a ≠ none → cntE a ev1 ≤ cntE a ev) : ∀ x, SE ev1 x → SE ev x ∨ H x = none := fun x hx => by
  by_cases e : H x = none
  · exact .inr e
  · have := old x e
    exact .inl (by show 0 < cntE x ev; have : 0 < cntE x ev1 := hx; omega)
theorem W.gr' {S : Addr → Prop} (w : W Z H S Z' H') {a : Addr} (h : H a ≠ none) : H' a ≠ none := fun e => h (w.gr a e)
theorem AftX.refl (s : StOk K Z H σ ev) : AftX K Z H σ ev Z H ev := ⟨s, W.refl, fun _ _ => Nat.le_refl _⟩
theorem AftX.trans (a : AftX K Z H σ ev Z1 H1 ev1) (b : AftX K Z1 H1 σ ev1 Z2 H2 ev2) : AftX K Z H σ ev Z2 H2 ev2 :=
  ⟨b.st, a.w.trans b.w (se_le a.old), fun x hx => Nat.le_trans (b.old x (a.w.gr' hx)) (a.old x hx)⟩
theorem Aft.x {e : E} {t : VS.T} (a : Aft K e Z H σ ev Z' H' ev' t) : AftX K Z H σ ev Z' H' ev' := ⟨a.st, a.w, fun x hx => by have := a.old x hx; omega⟩
theorem AftL.x {es : List E} {ts : List VS.T} (a : AftL K es Z H σ ev Z' H' ev' ts) : AftX K Z H σ ev Z' H' ev' := ⟨a.st, a.w, fun x hx => by have := a.old x hx; omega⟩
theorem XC.after {x : Ex} {env' : Env} (h : XC K XR Wx Z H σ ev x env') (a : AftX K Z H σ ev Z1 H1 ev1) : XC K XR Wx Z1 H1 σ ev1 x env' :=
  fun Z' H' ev' cls dd e b r => h Z' H' ev' cls dd e (a.trans b) r
theorem AftL.nil (s : StOk K Z H σ ev) : AftL K [] Z H σ ev Z H ev [] :=
  ⟨s, .nil, W.refl, fun _ => ⟨rfl, W.refl⟩, fun a _ => by simp [owns], fun a _ => by have := s.one a; simp [owns]; omega, rfl⟩
theorem LR.nil {k : (Addr → Prop) → Hp → EnvT → List VS.T → Prop} (s : StOk K Z H σ ev) (h : LR K XR Wx [] Z H σ ev (.ok [] (erE ev)) k) : k Z H ev [] :=
  h Z H ev [] rfl rfl (AftL.nil s)
theorem isImm_er {t : VS.T} (h : isImm t.er = true) : ∃ v c, t = .imm v c := by
  cases t with
  | imm v c => exact ⟨v, c, rfl⟩
  | lst a xs => simp [VS.T.er, isImm] at h
  | dct a k ks xs => simp [VS.T.er, isImm] at h
  | tup a xs => simp [VS.T.er, isImm] at h
/-- a result stays behind what comes next -/
theorem Aft.stay {e : E} {t : VS.T} (s : StOk K Z H σ ev) (a : Aft K e Z H σ ev Z1 H1 ev1 t) (b : AftX K Z1 H1 σ ev1 Z2 H2 ev2) (h : isImm t.er = true ∨ bw e = false ∨ W Z1 H1 (fun _ => False) Z2 H2) : Holds K Z2 H2 t := by
  rcases h with h | h | h
  · obtain ⟨v, c, rfl⟩ := isImm_er h
    exact a.hd.keep b.w a.st.soft fun x hx => by simp [VS.T.cnt] at hx
  · refine a.hd.keep b.w a.st.soft fun x hx z => ?_
    have z : 0 < cntE x ev1 := z
    have hw : own e t x = t.cnt x := by simp [own, h]
    by_cases q : H x = none
    · have := a.new x q; omega
    · have := a.old x q; have := s.one x; omega
  · exact a.hd.keep h Soft.empty fun _ _ z => z
theorem own_imm {e : E} {t : VS.T} (h : isImm t.er = true) (a : Addr) : own e t a = 0 := by
  obtain ⟨v, c, rfl⟩ := isImm_er h
  simp [own, VS.T.cnt]
theorem own_le (e : E) (t : VS.T) (a : Addr) : own e t a ≤ t.cnt a := by unfold own; split <;> omega
/-- an item, then the others -/
theorem AftL.cons {e : E} {es : List E} {t : VS.T} {ts : List VS.T} (s : StOk K Z H σ ev) (a : Aft K e Z H σ ev Z1 H1 ev1 t) (b : AftL K es Z1 H1 σ ev1 Z2 H2 ev2 ts)
    (h : isImm t.er = true ∨ bw e = false ∨ trivs es = true) : AftL K (e :: es) Z H σ ev Z2 H2 ev2 (t :: ts) := by
  have hd := a.stay s b.x (h.imp_right fun q => q.imp_right fun r => (b.tr r).2)
  refine ⟨b.st, .cons hd b.hd, a.w.trans b.w (se_le a.x.old), fun q => ?_, fun x hx => ?_, fun x hx => ?_, by simp [b.len]⟩
  · have q : (triv e && trivs es) = true := q
    simp only [Bool.and_eq_true] at q
    obtain ⟨e1, w1⟩ := a.tr q.1
    obtain ⟨e2, w2⟩ := b.tr q.2
    exact ⟨e2.trans e1, w1.trans w2 fun _ z => z.elim⟩
  · have h1 := a.old x hx
    have h2 := b.old x (a.w.gr' hx)
    simp only [owns]; omega
  · simp only [owns]
    by_cases q : H1 x = none
    · have h2 := b.new x q
      have h3 : own e t x = 0 := by
        by_cases z : 0 < t.cnt x
        · exact absurd q (a.hd.own z).2.some
        · have := own_le e t x; omega
      omega
    · have h1 := a.new x hx
      have h2 := b.old x q
      omega
/-- a bare name is read behind the others: it stands at its slot still -/
theorem rd_same {i : Nat} {t u : VS.T} {Z3 : Addr → Prop} {H3 : Hp} (s1 : StOk K Z1 H1 σ ev1) (s2 : StOk K Z3 H3 σ ev2) (h1 : ev1[i]? = some (some t)) (h2 : ev2[i]? = some (some u)) : u.val = t.val := by
  have e1 := s1.val i t h1
  have e2 := s2.val i u h2
  rw [e1] at e2
  injection e2 with e2; injection e2 with e2; exact e2.symm
theorem Aft.read (s : StOk K Z H σ ev) {i : Nat} {t : VS.T} (h : ev[i]? = some (some t)) : Aft K (.var i) Z H σ ev Z H ev t :=
  ⟨s, s.hold i t h, W.refl, fun _ => ⟨rfl, W.refl⟩, fun a _ => by simp [own, bw], fun a _ => by have := s.one a; simp [own, bw]; omega, fun j e => by cases e; exact h⟩
theorem isVar_some {e : E} {i : Nat} (h : isVar e = some i) : e = .var i := by cases e <;> simp [isVar] at h; rw [h]
/-- operands: the first, then the others -/
theorem evL_cons {e : E} {f : Env → R D} {ps : List Dn} {k : (Addr → Prop) → Hp → EnvT → List VS.T → Prop} (s : StOk K Z H σ ev) (h : LR K XR Wx (e :: ps.map (·.1)) Z H σ ev (evL ((e, f) :: ps) (erE ev)) k) (hf : ∀ i, isVar e = some i → ∀ env, f env = .of (rd i env) env) :
    ER K XR Wx e Z H σ ev (f (erE ev)) fun Z1 H1 ev1 t => StOk K Z1 H1 σ ev1 ∧ LR K XR Wx (ps.map (·.1)) Z1 H1 σ ev1 (evL ps (erE ev1)) fun Z2 H2 ev2 ts => ∃ t', t'.val = t.val ∧ k Z2 H2 ev2 (t' :: ts) := by
  unfold evL at h
  cases hv : isVar e with
  | some i =>
    obtain rfl := isVar_some hv
    rw [hf i hv]
    simp only [hv] at h
    cases hr : rd i (erE ev) with
    | none => rw [hr] at h; exact h.elim
    | some d =>
      rw [hr] at h
      obtain ⟨t0, ht0, et0⟩ := rd_some hr
      show ∀ Z' H' ev' t, t.er = d → erE ev' = erE ev → Aft K (.var i) Z H σ ev Z' H' ev' t → _
      intro Z1 H1 ev1 t et ee a
      refine ⟨a.st, ?_⟩
      rw [ee]
      simp only at h
      cases hl : evL ps (erE ev) with
      | stuck => rw [hl] at h; exact h.elim
      | exn x env' =>
        rw [hl] at h
        exact XC.after h a.x
      | ok ds env' =>
        rw [hl] at h
        intro Z2 H2 ev2 ts e1 e2 b
        simp only [R.bind] at h
        cases hr2 : rd i env' with
        | none => rw [hr2] at h; exact h.elim
        | some d2 =>
          rw [hr2] at h
          rw [← e2] at hr2
          obtain ⟨t2, ht2, et2⟩ := rd_some hr2
          refine ⟨t2, rd_same a.st b.st (a.var i rfl) ht2, h Z2 H2 ev2 (t2 :: ts) (by simp [ers, et2, e1]) e2 ?_⟩
          have c := b.x
          refine ⟨b.st, .cons (b.st.hold i t2 ht2) b.hd, a.w.trans b.w (se_le a.x.old), fun q => ?_, fun x hx => ?_, fun x hx => ?_, by simp [b.len]⟩
          · have q : (triv (E.var i) && trivs (ps.map (·.1))) = true := q
            simp only [Bool.and_eq_true] at q
            obtain ⟨e1, w1⟩ := a.tr q.1
            obtain ⟨e2, w2⟩ := b.tr q.2
            exact ⟨e2.trans e1, w1.trans w2 fun _ z => z.elim⟩
          · have h1 := a.old x hx
            have h2 := b.old x (a.w.gr' hx)
            simp [owns, own, bw] at h1 h2 ⊢; omega
          · by_cases q : H1 x = none
            · have h2 := b.new x q
              simp [owns, own, bw]; omega
            · have h1 := a.new x hx
              have h2 := b.old x q
              simp [owns, own, bw] at h1 ⊢; omega
  | none =>
    simp only [hv] at h
    cases hfe : f (erE ev) with
    | stuck => rw [hfe] at h; exact h.elim
    | exn x env' => rw [hfe] at h; exact h
    | ok d env1 =>
      rw [hfe] at h
      simp only [R.bind] at h
      intro Z1 H1 ev1 t et ee a
      refine ⟨a.st, ?_⟩
      split at h
      · rename_i hc
        have hc' : isImm t.er = true ∨ bw e = false ∨ trivs (ps.map (·.1)) = true := by
          rw [et]
          simp only [Bool.or_eq_true, Bool.not_eq_true'] at hc
          rcases hc with (hc | hc) | hc
          · exact .inl hc
          · exact .inr (.inl hc)
          · exact .inr (.inr hc)
        rw [ee]
        cases hl : evL ps env1 with
        | stuck => rw [hl] at h; exact h.elim
        | exn x env' =>
          rw [hl] at h
          exact XC.after h a.x
        | ok ds env' =>
          rw [hl] at h
          intro Z2 H2 ev2 ts e1 e2 b
          exact ⟨t, rfl, h Z2 H2 ev2 (t :: ts) (by simp [ers, et, e1]) e2 (AftL.cons s a b hc')⟩
      · exact h.elim

def DnOk (p : Dn) : Prop := ∀ i, isVar p.1 = some i → ∀ env, p.2 env = .of (rd i env) env
theorem LR.mono {es : List E} {r : R (List D)} {k k' : (Addr → Prop) → Hp → EnvT → List VS.T → Prop} (h : LR K XR Wx es Z H σ ev r k)
    (m : ∀ Z' H' ev' ts, AftL K es Z H σ ev Z' H' ev' ts → k Z' H' ev' ts → k' Z' H' ev' ts) : LR K XR Wx es Z H σ ev r k' := by
  cases r with
  | ok ds env' => exact fun Z' H' ev' ts e1 e2 a => m _ _ _ _ a (h Z' H' ev' ts e1 e2 a)
  | exn x env' => exact h
  | stuck => exact h
theorem ER.mono {e : E} {r : R D} {k k' : (Addr → Prop) → Hp → EnvT → VS.T → Prop} (h : ER K XR Wx e Z H σ ev r k)
    (m : ∀ Z' H' ev' t, Aft K e Z H σ ev Z' H' ev' t → k Z' H' ev' t → k' Z' H' ev' t) : ER K XR Wx e Z H σ ev r k' := by
  cases r with
  | ok ds env' => exact fun Z' H' ev' t e1 e2 a => m _ _ _ _ a (h Z' H' ev' t e1 e2 a)
  | exn x env' => exact h
  | stuck => exact h
/-- the operands' readings, one behind the other -/
def tLn (K : PySem.W.Frag) (XR : XRel) (Wx : WX') : List Dn → TA
  | [] => tNil
  | p :: ps => tCons (tE K XR Wx p) (tLn K XR Wx ps)
theorem evL_tLn : ∀ {ps : List Dn} {Z : Addr → Prop} {H : Hp} {ev : EnvT} {k : (Addr → Prop) → Hp → EnvT → List VS.T → Prop} (s : StOk K Z H σ ev) (hp : ∀ p ∈ ps, DnOk p)
    (h : LR K XR Wx (ps.map (·.1)) Z H σ ev (evL ps (erE ev)) k) {Q : List V → Hp → Prop} (hq : ∀ Z' H' ev' ts, k Z' H' ev' ts → Q (vals ts) H'), tLn K XR Wx ps σ H Q
  | [], Z, H, ev, k, s, _, h, Q, hq => hq _ _ _ _ (LR.nil s h)
  | p :: ps, Z, H, ev, k, s, hp, h, Q, hq => by
    refine ⟨Z, ev, s, ER.mono (evL_cons s h (hp p List.mem_cons_self)) fun Z1 H1 ev1 t _ q => ?_⟩
    refine evL_tLn q.1 (fun p' hp' => hp p' (List.mem_cons_of_mem _ hp')) q.2 fun Z2 H2 ev2 ts r => ?_
    obtain ⟨t', e, r⟩ := r
    have := hq _ _ _ _ r
    simpa [vals, e] using this

/-! ### things to be kept, arguments -/
def Kept (e : E) (t : VS.T) : Prop := isImm t.er = true ∨ bw e = false
theorem Kept.cnt {e : E} {t : VS.T} (h : Kept e t) (a : Addr) : t.cnt a = own e t a := by
  rcases h with h | h
  · rw [own_imm h]
    obtain ⟨v, c, rfl⟩ := isImm_er h
    rfl
  · simp [own, h]
theorem evOne_ER {e : E} {f : Env → R D} {k : (Addr → Prop) → Hp → EnvT → VS.T → Prop} (h : ER K XR Wx e Z H σ ev (evOne (e, f) (erE ev)) k) :
    ER K XR Wx e Z H σ ev (f (erE ev)) fun Z1 H1 ev1 t => Kept e t ∧ k Z1 H1 ev1 t := by
  unfold evOne at h
  simp only at h
  cases hf : f (erE ev) with
  | stuck => rw [hf] at h; exact h.elim
  | exn x env' => rw [hf] at h; exact h
  | ok d env1 =>
    rw [hf] at h
    simp only [R.bind] at h
    intro Z1 H1 ev1 t et ee a
    split at h
    · rename_i hc
      refine ⟨?_, h Z1 H1 ev1 t et ee a⟩
      rw [← et] at hc
      simp only [Bool.or_eq_true, Bool.not_eq_true'] at hc
      exact hc
    · exact h.elim
theorem R.bind_bind {α β γ : Type} (r : R α) (f : α → Env → R β) (g : β → Env → R γ) : (r.bind f).bind g = r.bind fun a env => (f a env).bind g := by cases r <;> rfl
def keptL : List E → List VS.T → Prop
  | e :: es, t :: ts => Kept e t ∧ keptL es ts
  | [], [] => True
  | _, _ => False
theorem evO_tLn : ∀ {ps : List Dn} {Z : Addr → Prop} {H : Hp} {ev : EnvT} {k : (Addr → Prop) → Hp → EnvT → List VS.T → Prop} (s : StOk K Z H σ ev)
    (h : LR K XR Wx (ps.map (·.1)) Z H σ ev (evO ps (erE ev)) k) {Q : List V → Hp → Prop} (hq : ∀ Z' H' ev' ts, AftL K (ps.map (·.1)) Z H σ ev Z' H' ev' ts → keptL (ps.map (·.1)) ts → k Z' H' ev' ts → Q (vals ts) H'), tLn K XR Wx ps σ H Q
  | [], Z, H, ev, k, s, h, Q, hq => hq _ _ _ _ (AftL.nil s) trivial (LR.nil s h)
  | (e, f) :: ps, Z, H, ev, k, s, h, Q, hq => by
    have key : ER K XR Wx e Z H σ ev (evOne (e, f) (erE ev)) fun Z1 H1 ev1 t => Kept e t → tLn K XR Wx ps σ H1 fun xs H2 => Q (t.val :: xs) H2 := by
      unfold evO at h
      cases hf : evOne (e, f) (erE ev) with
      | stuck => rw [hf] at h; exact h.elim
      | exn x env' => rw [hf] at h; exact h
      | ok d env1 =>
        rw [hf] at h
        intro Z1 H1 ev1 t et ee a hk
        have h1 : LR K XR Wx (ps.map (·.1)) Z1 H1 σ ev1 (evO ps (erE ev1)) fun Z2 H2 ev2 ts => AftL K (e :: ps.map (·.1)) Z H σ ev Z2 H2 ev2 (t :: ts) ∧ k Z2 H2 ev2 (t :: ts) := by
          rw [ee]
          simp only [R.bind] at h
          cases hl : evO ps env1 with
          | stuck => rw [hl] at h; exact h.elim
          | exn x env' => rw [hl] at h; exact XC.after h a.x
          | ok ds env' =>
            rw [hl] at h
            intro Z2 H2 ev2 ts e1 e2 b
            have c := AftL.cons s a b (hk.imp_right .inl)
            exact ⟨c, h Z2 H2 ev2 (t :: ts) (by simp [ers, et, e1]) e2 c⟩
        exact evO_tLn a.st h1 fun Z2 H2 ev2 ts b kl q => hq Z2 H2 ev2 (t :: ts) q.1 ⟨hk, kl⟩ q.2
    refine ⟨Z, ev, s, ER.mono (evOne_ER key) fun Z1 H1 ev1 t a q => q.2 q.1⟩
/-- arguments: names are lent (they stand at their slots), the others are kept -/
def argsOk (ev : EnvT) : List E → List VS.T → Prop
  | e :: es, t :: ts => (match isVar e with | some i => ev[i]? = some (some t) | none => Kept e t) ∧ argsOk ev es ts
  | [], [] => True
  | _, _ => False
theorem evA_tLn : ∀ {ps : List Dn} {Z : Addr → Prop} {H : Hp} {ev : EnvT} {k : (Addr → Prop) → Hp → EnvT → List VS.T → Prop} (s : StOk K Z H σ ev) (hp : ∀ p ∈ ps, DnOk p)
    (h : LR K XR Wx (ps.map (·.1)) Z H σ ev (evA ps (erE ev)) k) {Q : List V → Hp → Prop} (hq : ∀ Z' H' ev' ts, AftL K (ps.map (·.1)) Z H σ ev Z' H' ev' ts → argsOk ev' (ps.map (·.1)) ts → k Z' H' ev' ts → Q (vals ts) H'), tLn K XR Wx ps σ H Q
  | [], Z, H, ev, k, s, _, h, Q, hq => hq _ _ _ _ (AftL.nil s) trivial (LR.nil s h)
  | (e, f) :: ps, Z, H, ev, k, s, hp, h, Q, hq => by
    unfold evA at h
    cases hv : isVar e with
    | some i =>
      obtain rfl := isVar_some hv
      have hf := hp _ List.mem_cons_self i rfl
      simp only at hf
      simp only [hv] at h
      refine ⟨Z, ev, s, ?_⟩
      show ER K XR Wx (.var i) Z H σ ev (f (erE ev)) _
      rw [hf]
      cases hr : rd i (erE ev) with
      | none => rw [hr] at h; exact h.elim
      | some d =>
        rw [hr] at h
        show ∀ Z' H' ev' t, t.er = d → erE ev' = erE ev → Aft K (.var i) Z H σ ev Z' H' ev' t → _
        intro Z1 H1 ev1 t et ee a
        simp only at h
        have h1 : LR K XR Wx (ps.map (·.1)) Z1 H1 σ ev1 (evA ps (erE ev1)) fun Z2 H2 ev2 ts => ∃ t2, t2.val = t.val ∧ ev2[i]? = some (some t2) ∧ AftL K (.var i :: ps.map (·.1)) Z H σ ev Z2 H2 ev2 (t2 :: ts) ∧ k Z2 H2 ev2 (t2 :: ts) := by
          rw [ee]
          cases hl : evA ps (erE ev) with
          | stuck => rw [hl] at h; exact h.elim
          | exn x env' => rw [hl] at h; exact XC.after h a.x
          | ok ds env' =>
            rw [hl] at h
            intro Z2 H2 ev2 ts e1 e2 b
            simp only [R.bind] at h
            cases hr2 : rd i env' with
            | none => rw [hr2] at h; exact h.elim
            | some d2 =>
              rw [hr2] at h
              rw [← e2] at hr2
              obtain ⟨t2, ht2, et2⟩ := rd_some hr2
              have c : AftL K (.var i :: ps.map (·.1)) Z H σ ev Z2 H2 ev2 (t2 :: ts) := by
                refine ⟨b.st, .cons (b.st.hold i t2 ht2) b.hd, a.w.trans b.w (se_le a.x.old), fun q => ?_, fun x hx => ?_, fun x hx => ?_, by simp [b.len]⟩
                · have q : (triv (E.var i) && trivs (ps.map (·.1))) = true := q
                  simp only [Bool.and_eq_true] at q
                  obtain ⟨e1, w1⟩ := a.tr q.1
                  obtain ⟨e2, w2⟩ := b.tr q.2
                  exact ⟨e2.trans e1, w1.trans w2 fun _ z => z.elim⟩
                · have h1 := a.old x hx
                  have h2 := b.old x (a.w.gr' hx)
                  simp [owns, own, bw] at h1 h2 ⊢; omega
                · by_cases q : H1 x = none
                  · have h2 := b.new x q
                    simp [owns, own, bw]; omega
                  · have h1 := a.new x hx
                    have h2 := b.old x q
                    simp [owns, own, bw] at h1 ⊢; omega
              exact ⟨t2, rd_same a.st b.st (a.var i rfl) ht2, ht2, c, h Z2 H2 ev2 (t2 :: ts) (by simp [ers, et2, e1]) e2 c⟩
        refine evA_tLn a.st (fun p' hp' => hp p' (List.mem_cons_of_mem _ hp')) h1 fun Z2 H2 ev2 ts b kl q => ?_
        obtain ⟨t2, ev2', h2, c, q⟩ := q
        have := hq Z2 H2 ev2 (t2 :: ts) c ⟨by simpa [isVar] using h2, kl⟩ q
        simpa [vals, ev2'] using this
    | none =>
      simp only [hv] at h
      have key : ER K XR Wx e Z H σ ev (evOne (e, f) (erE ev)) fun Z1 H1 ev1 t => Kept e t → tLn K XR Wx ps σ H1 fun xs H2 => Q (t.val :: xs) H2 := by
        cases hf : evOne (e, f) (erE ev) with
        | stuck => rw [hf] at h; exact h.elim
        | exn x env' => rw [hf] at h; exact h
        | ok d env1 =>
          rw [hf] at h
          intro Z1 H1 ev1 t et ee a hk
          have h1 : LR K XR Wx (ps.map (·.1)) Z1 H1 σ ev1 (evA ps (erE ev1)) fun Z2 H2 ev2 ts => AftL K (e :: ps.map (·.1)) Z H σ ev Z2 H2 ev2 (t :: ts) ∧ k Z2 H2 ev2 (t :: ts) := by
            rw [ee]
            simp only [R.bind] at h
            cases hl : evA ps env1 with
            | stuck => rw [hl] at h; exact h.elim
            | exn x env' => rw [hl] at h; exact XC.after h a.x
            | ok ds env' =>
              rw [hl] at h
              intro Z2 H2 ev2 ts e1 e2 b
              have c := AftL.cons s a b (hk.imp_right .inl)
              exact ⟨c, h Z2 H2 ev2 (t :: ts) (by simp [ers, et, e1]) e2 c⟩
          exact evA_tLn a.st (fun p' hp' => hp p' (List.mem_cons_of_mem _ hp')) h1 fun Z2 H2 ev2 ts b kl q => hq Z2 H2 ev2 (t :: ts) q.1 ⟨by simpa [hv] using hk, kl⟩ q.2
      exact ⟨Z, ev, s, ER.mono (evOne_ER key) fun Z1 H1 ev1 t a q => q.2 q.1⟩

/-! ### a result of some operands -/
structure New (K : PySem.W.Frag) (b : Addr → Nat) (Z : Addr → Prop) (H : Hp) (Z' : Addr → Prop) (H' : Hp) (t : VS.T) : Prop where
  hd : Holds K Z' H' t
  w : W Z H (fun _ => False) Z' H'
  old : ∀ a, H a ≠ none → t.cnt a ≤ b a
  new : ∀ a, H a = none → t.cnt a ≤ 1
def RN (K : PySem.W.Frag) (b : Addr → Nat) (d : D) (Q : VK) (Z : Addr → Prop) (H : Hp) : Prop := ∀ Z' H' t, t.er = d → New K b Z H Z' H' t → Q t.val H'
theorem StOk.kept0 (s : StOk K Z H σ ev) (w : W Z H (fun _ => False) Z' H') : StOk K Z' H' σ ev := s.kept w Soft.empty fun _ _ z => z
theorem AftL.done {e : E} {es : List E} {ts : List VS.T} {t : VS.T} {b : Addr → Nat} (a : AftL K es Z H σ ev Z1 H1 ev1 ts) (n : New K b Z1 H1 Z2 H2 t)
    (hb : bw e = true ∨ ∀ x, b x ≤ owns es ts x) (hv : isVar e = none) (ht : triv e = true → trivs es = true) : Aft K e Z H σ ev Z2 H2 ev1 t := by
  refine ⟨a.st.kept0 n.w, n.hd, a.w.trans n.w (fun _ z => z.elim), fun q => ⟨(a.tr (ht q)).1, (a.tr (ht q)).2.trans n.w fun _ z => z.elim⟩, fun x hx => ?_, fun x hx => ?_, fun i q => by rw [hv] at q; cases q⟩
  · have h1 := a.old x hx
    rcases hb with hb | hb
    · simp [own, hb]; omega
    · have h2 := n.old x (a.w.gr' hx)
      have h3 := hb x
      have h4 := own_le e t x
      omega
  · have h1 := a.new x hx
    rcases hb with hb | hb
    · simp [own, hb]; omega
    · have h4 := own_le e t x
      by_cases q : H1 x = none
      · have h2 := n.new x q
        by_cases z : 0 < cntE x ev1
        · exact absurd q (a.st.soft x z).2.some
        · omega
      · have h2 := n.old x q
        have h3 := hb x
        omega
theorem New.of_imm {v : V} {c : C} {b : Addr → Nat} (r : RC K Z' H' v c) (w : W Z H (fun _ => False) Z' H') : New K b Z H Z' H' (.imm v c) :=
  ⟨.imm r, w, fun a _ => by simp [VS.T.cnt], fun a _ => by simp [VS.T.cnt]⟩
/-- the reading of an operation on two operands -/
def r2 (K : PySem.W.Frag) (kk : D → D → Option D) (b : VS.T → VS.T → Addr → Nat) : R2 := fun x y H Q => ∃ Z t1 t2 d, x = t1.val ∧ y = t2.val ∧ ZOk Z H ∧ Holds K Z H t1 ∧ Holds K Z H t2 ∧ kk t1.er t2.er = some d ∧ RN K (b t1 t2) d Q Z H
theorem ev2_tOp {e a b : E} {fa fb : Env → R D} {kk : D → D → Option D} {bb : VS.T → VS.T → Addr → Nat} (pa : DnOk (a, fa)) (pb : DnOk (b, fb)) (hv : isVar e = none) (ht : triv e = true → (triv a && triv b) = true)
    (hb : bw e = true ∨ ∀ t1 t2 x, bb t1 t2 x ≤ own a t1 x + own b t2 x) {H : Hp} {Q : VK} (h : tE K XR Wx (e, VS.ev2 (a, fa) (b, fb) kk) σ H Q) :
    tOp (r2 K kk bb) (tE K XR Wx (a, fa)) (tE K XR Wx (b, fb)) σ H Q := by
  obtain ⟨Z, ev, s, h⟩ := h
  have h1 : LR K XR Wx [a, b] Z H σ ev (evL [(a, fa), (b, fb)] (erE ev)) fun Z' H' ev' ts => ∃ t1 t2, ts = [t1, t2] ∧ r2 K kk bb t1.val t2.val H' Q := by
    unfold VS.ev2 at h
    simp only at h
    cases hl : evL [(a, fa), (b, fb)] (erE ev) with
    | stuck => rw [hl] at h; exact h.elim
    | exn x env' => rw [hl] at h; exact h
    | ok ds env' =>
      rw [hl] at h
      intro Z1 H1 ev1 ts e1 e2 aft
      simp only [R.bind] at h
      split at h
      · rename_i x y
        match ts, e1, aft with
        | [t1, t2], e1, aft =>
          simp only [ers, List.cons.injEq, and_true] at e1
          obtain ⟨rfl, rfl⟩ := e1
          refine ⟨t1, t2, rfl, Z1, t1, t2, ?_⟩
          cases hk : kk t1.er t2.er with
          | none => rw [hk] at h; exact h.elim
          | some d =>
            rw [hk] at h
            refine ⟨d, rfl, rfl, aft.st.zk, aft.hd.all _ (by simp), aft.hd.all _ (by simp), rfl, fun Z2 H2 t et n => ?_⟩
            refine h Z2 H2 ev1 t et e2 (aft.done n ?_ hv ?_)
            · rcases hb with hb | hb
              · exact .inl hb
              · exact .inr fun x => by have := hb t1 t2 x; simpa [owns] using this
            · intro q; simpa [trivs] using ht q
        | [], e1, aft => simp [ers] at e1
        | [_], e1, aft => simp [ers] at e1
        | _ :: _ :: _ :: _, e1, aft => simp [ers] at e1
      · exact h.elim
  have h2 := evL_tLn (ps := [(a, fa), (b, fb)]) (Q := fun xs H' => ∃ x y, xs = [x, y] ∧ r2 K kk bb x y H' Q) s (fun p hp => by
    simp only [List.mem_cons, List.mem_nil_iff, or_false] at hp
    rcases hp with rfl | rfl
    · exact pa
    · exact pb) h1 (fun Z' H' ev' ts q => by
      obtain ⟨t1, t2, rfl, q⟩ := q
      exact ⟨_, _, rfl, q⟩)
  have : tLn K XR Wx [(a, fa), (b, fb)] σ H (fun xs H' => ∃ x y, xs = [x, y] ∧ r2 K kk bb x y H' Q) := h2
  simp only [tLn, tCons, tNil] at this
  unfold tOp
  obtain ⟨Za, eva, sa, ha⟩ := this
  refine ⟨Za, eva, sa, ER.mono ha fun Z1 H1 ev1 t1 _ q => ?_⟩
  obtain ⟨Zb, evb, sb, hb'⟩ := q
  refine ⟨Zb, evb, sb, ER.mono hb' fun Z2 H2 ev2 t2 _ q2 => ?_⟩
  obtain ⟨x, y, e, q2⟩ := q2
  simp only [List.cons.injEq, and_true] at e
  obtain ⟨rfl, rfl⟩ := e
  exact q2
end
end VS

/-! VS4: the operators' rules. -/
set_option linter.all false
set_option autoImplicit false
set_option maxRecDepth 100000
set_option maxHeartbeats 2000000
namespace VS
open PySem PySem.Spec PyProof.Rows L2

section
variable {K : PySem.W.Frag} {Z Z' : Addr → Prop} {H H' : Hp}
theorem er_imm {t : VS.T} {c : C} (h : t.er = .imm c) : ∃ v, t = .imm v c := by
  cases t <;> simp [VS.T.er] at h
  subst h; exact ⟨_, rfl⟩
theorem holds_imm {t : VS.T} {c : C} (h : Holds K Z H t) (e : t.er = .imm c) : RC K Z H t.val c := by
  obtain ⟨v, rfl⟩ := er_imm e
  cases h with
  | imm r => exact r
theorem rc_int {v : V} {i : Int} (h : RC K Z H v (.int i)) : v = .int i := by cases h; rfl
theorem rc_str {v : V} {i : Str} (h : RC K Z H v (.str i)) : v = .str i := by cases h; rfl
theorem rc_bool {v : V} {i : Bool} (h : RC K Z H v (.bool i)) : v = .bl i := by cases h; rfl
theorem rc_none {v : V} (h : RC K Z H v .none) : v = .non := by cases h; rfl
theorem rc_tup {v : V} {cs : List C} (h : RC K Z H v (.tuple cs)) : ∃ a vs, v = .ref a ∧ SqT K H a vs ∧ RCs K Z H vs cs := by cases h; exact ⟨_, _, rfl, ‹_›, ‹_›⟩
theorem rc_lst {v : V} {cs : List C} (h : RC K Z H v (.list cs)) : ∃ a vs, v = .ref a ∧ SqZ K Z H a vs ∧ RCs K Z H vs cs := by cases h; exact ⟨_, _, rfl, ‹_›, ‹_›⟩
theorem imms_map : ∀ cs : List C, imms (cs.map .imm) = some cs
  | [] => rfl
  | c :: cs => by rw [List.map_cons, imms, imms_map cs]; rfl
theorem imms_ers : ∀ {ts : List VS.T} {cs : List C}, HoldsL K Z H ts → imms (ers ts) = some cs → RCs K Z H (vals ts) cs
  | [], cs, _, h => by simp [ers, imms] at h; subst h; exact .nil
  | t :: ts, cs, .cons h1 h2, h => by
    rw [ers] at h
    cases e : t.er with
    | imm c =>
      rw [e, imms] at h
      cases e2 : imms (ers ts) with
      | none => rw [e2] at h; cases h
      | some ds =>
        rw [e2] at h
        simp at h; subst h
        exact .cons (holds_imm h1 e) (imms_ers h2 e2)
    | lst _ => rw [e] at h; cases h
    | dct _ _ => rw [e] at h; cases h
    | tup _ => rw [e] at h; cases h
/-- trees of contents -/
def mkTs : List V → List C → List VS.T
  | v :: vs, c :: cs => .imm v c :: mkTs vs cs
  | _, _ => []
theorem mkTs_vals : ∀ {vs : List V} {cs : List C}, RCs K Z H vs cs → vals (mkTs vs cs) = vs
  | _, _, .nil => rfl
  | _, _, .cons _ r => by rw [mkTs, vals, List.map_cons]; exact congrArg _ (mkTs_vals r)
theorem mkTs_er : ∀ {vs : List V} {cs : List C}, RCs K Z H vs cs → ers (mkTs vs cs) = cs.map .imm
  | _, _, .nil => rfl
  | _, _, .cons _ r => by rw [mkTs, ers, mkTs_er r]; rfl
theorem mkTs_holds : ∀ {vs : List V} {cs : List C}, RCs K Z H vs cs → HoldsL K Z H (mkTs vs cs)
  | _, _, .nil => .nil
  | _, _, .cons h r => .cons (.imm h) (mkTs_holds r)
theorem mkTs_cnt (b : Addr) : ∀ (vs : List V) (cs : List C), cnts b (mkTs vs cs) = 0
  | [], _ => rfl
  | _ :: _, [] => rfl
  | v :: vs, c :: cs => by rw [mkTs, cnts, mkTs_cnt b vs cs]; rfl
/-- a list of contents, whatever it is -/
theorem list_imms {t : VS.T} {xs : List D} {cs : List C} (h : Holds K Z H t) (e : t.er.list? = some xs) (e2 : imms xs = some cs) : ∃ a vs, t.val = .ref a ∧ SqL K H a vs ∧ RCs K Z H vs cs := by
  cases t with
  | imm v c =>
    simp only [VS.T.er] at e
    cases c <;> simp only [D.list?] at e <;> try cases e
    rw [imms_map] at e2
    cases e2
    obtain ⟨a, vs, h1, h2, h3⟩ := rc_lst (holds_imm h rfl)
    exact ⟨a, vs, h1, h2.sq, h3⟩
  | lst a ts =>
    simp only [VS.T.er, D.list?, Option.some.injEq] at e
    subst e
    cases h with
    | lst h1 h2 h3 => exact ⟨a, vals ts, rfl, .of h1, imms_ers h3 e2⟩
  | dct _ _ _ _ => simp [VS.T.er, D.list?] at e
  | tup _ _ => simp [VS.T.er, D.list?] at e
theorem tuple_imms {t : VS.T} {xs : List D} {cs : List C} (h : Holds K Z H t) (e : t.er.tuple? = some xs) (e2 : imms xs = some cs) : ∃ a vs, t.val = .ref a ∧ SqT K H a vs ∧ RCs K Z H vs cs := by
  cases t with
  | imm v c =>
    simp only [VS.T.er] at e
    cases c <;> simp only [D.tuple?] at e <;> try cases e
    rw [imms_map] at e2
    cases e2
    obtain ⟨a, vs, h1, h2, h3⟩ := rc_tup (holds_imm h rfl)
    exact ⟨a, vs, h1, h2, h3⟩
  | tup a ts =>
    simp only [VS.T.er, D.tuple?, Option.some.injEq] at e
    subst e
    cases h with
    | tup h1 h3 => exact ⟨a, vals ts, rfl, .of h1, imms_ers h3 e2⟩
  | dct _ _ _ _ => simp [VS.T.er, D.tuple?] at e
  | lst _ _ => simp [VS.T.er, D.tuple?] at e
/-! what a thing says, in the layer's words -/
mutual
theorem Holds.dp : ∀ {t : VS.T} {c : C}, Holds K Z H t → t.er.c? = some c → Dp K H t.val c
  | .imm v d, c, .imm r, e => by
    simp only [VS.T.er, D.c?, Option.some.injEq] at e
    subst e; exact r.dp
  | .lst a xs, c, .lst h1 _ h3, e => by
    simp only [VS.T.er, D.c?] at e
    cases e2 : cs? (ers xs) with
    | none => rw [e2] at e; cases e
    | some cs =>
      rw [e2] at e
      simp only [Option.map_some, Option.some.injEq] at e
      subst e
      exact .lst (.of h1) (h3.dps e2)
  | .dct a k ks xs, c, _, e => by simp [VS.T.er, D.c?] at e
  | .tup a xs, c, .tup h1 h3, e => by
    simp only [VS.T.er, D.c?] at e
    cases e2 : cs? (ers xs) with
    | none => rw [e2] at e; cases e
    | some cs =>
      rw [e2] at e
      simp only [Option.map_some, Option.some.injEq] at e
      subst e
      exact .tup (.of h1) (h3.dps e2)
theorem HoldsL.dps : ∀ {ts : List VS.T} {cs : List C}, HoldsL K Z H ts → cs? (ers ts) = some cs → DpAll K H (vals ts) cs
  | [], cs, _, e => by simp [ers, cs?] at e; subst e; exact .nil
  | t :: ts, cs, .cons h1 h2, e => by
    rw [ers, cs?] at e
    cases e1 : t.er.c? with
    | none => rw [e1] at e; simp at e
    | some c =>
      rw [e1] at e
      cases e2 : cs? (ers ts) with
      | none => rw [e2] at e; simp at e
      | some ds =>
        rw [e2] at e
        simp at e; subst e
        exact .cons (h1.dp e1) (h2.dps e2)
end
theorem SqL.new {p : Addr} {xs : List V} : SqT K (upd H p (.tup xs)) p xs := .of upd_same
/-- a new list of contents -/
theorem RN.list {b : Addr → Nat} {d : D} {Q : VK} {vs : List V} {cs : List C} (h : RN K b d Q Z H) (zk : ZOk Z H) (r : RCs K Z H vs cs) (e : d = .lst (cs.map .imm)) {p : Addr} (hp : H p = none) : Q (.ref p) (upd H p (.lst vs)) := by
  have w : W Z H (fun _ => False) Z (upd H p (.lst vs)) := W.new hp
  have r' := r.keep w Soft.empty
  refine h Z _ (.lst p (mkTs vs cs)) (by rw [VS.T.er, mkTs_er r, e]) ⟨.lst (by rw [mkTs_vals r]; exact upd_same) (fun z => zk p z hp) (mkTs_holds r'), w, fun a ha => ?_, fun a ha => ?_⟩
  · rw [VS.T.cnt, mkTs_cnt]
    split
    · rename_i q; subst q; exact absurd hp ha
    · omega
  · rw [VS.T.cnt, mkTs_cnt]; split <;> omega
/-- a new tuple of contents -/
theorem RN.tup {b : Addr → Nat} {d : D} {Q : VK} {vs : List V} {cs : List C} (h : RN K b d Q Z H) (r : RCs K Z H vs cs) (e : d = .imm (.tuple cs)) {p : Addr} (hp : H p = none) : Q (.ref p) (upd H p (.tup vs)) := by
  have w : W Z H (fun _ => False) Z (upd H p (.tup vs)) := W.new hp
  exact h Z _ (.imm (.ref p) (.tuple cs)) e.symm (New.of_imm (.tup (.of upd_same) (r.keep w Soft.empty)) w)
/-- contents that stand already -/
theorem RN.imm {b : Addr → Nat} {d : D} {Q : VK} {v : V} {c : C} (h : RN K b d Q Z H) (r : RC K Z H v c) (e : d = .imm c) : Q v H :=
  h Z H (.imm v c) e.symm (New.of_imm r W.refl)
end

/-! ### the operators -/
abbrev n0 : VS.T → VS.T → Addr → Nat := fun _ _ _ => 0
section
variable {X : Cx} {pins : List (Addr × Obj)} {σ : Sl} {H : Hp} {s : Shared}
theorem small_iff {i : Int} : small i = true ↔ (-(2 ^ 64) < i ∧ i < 2 ^ 64) := by simp [small]
/-- list + list, read wherever they stand -/
theorem catL (I : Inv X pins σ H s) {l b : Addr} {xs zs : List V} {Q : VK} (h1 : SqL X.K H l xs) (h2 : SqL X.K H b zs) (hz : xs.length + zs.length ≤ sizeLine) (q : ∀ p, H p = none → Q (.ref p) (upd H p (.lst (xs ++ zs)))) :
    wpAny (model X.prog X.w) X.A (binaryOp .Add (.ref l) (.ref b)) (EP X pins σ Q) X.xe s := by
  obtain ⟨its, r, ⟨⟨c1, dd, da, sl⟩, n, ho, hc, hdc, hd⟩, hl⟩ := I.list h1
  obtain ⟨its2, r2, ⟨⟨c2, dd2, da2, sl2⟩, n2, ho2, hc2, hdc2, hd2⟩, hl2⟩ := I.list h2
  have g1 := r.length
  have g2 := r2.length
  simp only at hc hd hdc hc2 hd2 hdc2
  subst hc hd hdc hc2 hd2 hdc2
  have z : its.toArray.size + its2.toArray.size ≤ sizeLine := by rw [List.size_toArray, List.size_toArray]; omega
  refine concat_meets ⟨_, ho, rfl⟩ ⟨_, ho2, rfl⟩ noFill_list_add seq_list_add PySem.F.slot_list_add PySem.F.entry_list_add
    (PySem.F.args_list_add_2 _ _) (list_addW l b its.toArray its2.toArray n n2 none none sl sl2 z) ⟨ho, ho2, ?_⟩
  have ea : its.toArray ++ its2.toArray = (its ++ its2).toArray := by simp
  rw [ea]
  exact ⟨.ref _, _, I.lnew (t' := s.toks) (r.append r2) (by rw [List.length_append]; omega), rfl, q _ I.fresh⟩
theorem op_binC {o : Operator} {x y : V} {v u : Value} {Q : VK} {i j : Int} {c : C} (I : Inv X pins σ H s) (rx : RelV x v) (ry : RelV y u) (ex : x = .int i) (ey : y = .int j) (hk : binC o (.int i) (.int j) = some c)
    (q : ∀ n, c = .int n → Q (.int n) H) : wpAny (model X.prog X.w) X.A (binaryOp o v u) (EP X pins σ Q) X.xe s := by
  cases o <;> simp only [binC, Option.some.injEq] at hk <;> try cases hk
  · exact op_add pins s σ H x y v u Q I rx ry ⟨i, j, ex, ey, q _ rfl⟩
  · exact op_sub pins s σ H x y v u Q I rx ry ⟨i, j, ex, ey, q _ rfl⟩
  · split at hk
    · rename_i h
      cases hk
      refine op_mul pins s σ H x y v u Q I rx ry ⟨i, j, ex, ey, ?_, q _ rfl⟩
      simp only [Bool.or_eq_true, small_iff] at h
      exact h
    · cases hk
  · split at hk
    · rename_i h
      cases hk
      exact op_mod pins s σ H x y v u Q I rx ry ⟨i, j, ex, ey, h, q _ rfl⟩
    · cases hk
  · split at hk
    · rename_i h
      cases hk
      exact op_pow pins s σ H x y v u Q I rx ry ⟨i, j, ex, ey, h, q _ rfl⟩
    · cases hk
  · split at hk
    · rename_i h
      cases hk
      exact op_fdiv pins s σ H x y v u Q I rx ry ⟨i, j, ex, ey, h, q _ rfl⟩
    · cases hk
theorem RCs.rep {K : PySem.W.Frag} {Z : Addr → Prop} {vs : List V} {cs : List C} (r : RCs K Z H vs cs) : ∀ k : Nat, RCs K Z H (List.replicate k vs).flatten (List.replicate k cs).flatten
  | 0 => .nil
  | k + 1 => by rw [List.replicate_succ, List.replicate_succ, List.flatten_cons, List.flatten_cons]; exact r.append (r.rep k)
theorem rc_binInt {o : Operator} {i j : Int} {c : C} (h : binC o (.int i) (.int j) = some c) : ∃ n, c = .int n := by
  cases o <;> simp only [binC, Option.some.injEq] at h <;> (try cases h) <;> (try exact ⟨_, rfl⟩) <;> (split at h <;> cases h <;> exact ⟨_, rfl⟩)
theorem op_bin {o : Operator} : OpR X (binaryOp o) (r2 X.K (binD o) n0) := by
  intro pins s σ H x y v u Q I rx ry h
  obtain ⟨Z, t1, t2, d, ex, ey, zk, h1, h2, hk, hr⟩ := h
  unfold binD at hk
  split at hk
  · rename_i i j e1 e2
    cases hc : binC o (.int i) (.int j) with
    | none => rw [hc] at hk; cases hk
    | some c =>
      rw [hc] at hk
      simp only [Option.map_some, Option.some.injEq] at hk
      have a1 := rc_int (holds_imm h1 e1)
      have a2 := rc_int (holds_imm h2 e2)
      refine op_binC I rx ry (ex.trans a1) (ey.trans a2) hc fun n e => ?_
      subst e
      exact hr.imm (.int n) hk.symm
  · rename_i i j e1 e2
    have a1 := rc_str (holds_imm h1 e1)
    have a2 := rc_str (holds_imm h2 e2)
    cases o <;> simp only [binC, Option.map_none, reduceCtorEq] at hk
    split at hk
    · rename_i hz
      simp only [Option.map_some, Option.some.injEq] at hk
      exact op_add_str pins s σ H x y v u Q I rx ry ⟨i, j, ex.trans a1, ey.trans a2, hz, hr.imm (.str _) hk.symm⟩
    · cases hk
  · rename_i a b e1 e2
    split at hk
    · rename_i hz
      obtain ⟨rfl, hz⟩ := hz
      cases hk
      obtain ⟨p, vs, p1, p2, p3⟩ := rc_tup (holds_imm h1 e1)
      obtain ⟨q, ws, q1, q2, q3⟩ := rc_tup (holds_imm h2 e2)
      have l1 := p3.length
      have l2 := q3.length
      refine op_catA pins s σ H x y v u Q I rx ry ⟨p, q, vs, ws, ex.trans p1, ey.trans q1, p2, q2, by omega, fun z => ?_, fun _ z => ?_, fun _ _ r hp => hr.tup (p3.append q3) rfl hp⟩
      · subst z
        cases p3
        exact hr.imm (.tup q2 q3) (by simp)
      · subst z
        cases q3
        exact hr.imm (.tup p2 p3) (by simp)
    · cases hk
  · rename_i xs k e1 e2
    split at hk
    · rename_i ho
      subst ho
      unfold repD at hk
      split at hk
      · rename_i cs ec
        split at hk
        · rename_i hz
          cases hk
          cases t1 with
          | lst a ts =>
            simp only [VS.T.er, D.lst.injEq] at e1
            subst e1
            cases h1 with
            | lst g1 g2 g3 =>
              have r := imms_ers g3 ec
              have l1 := r.length
              refine op_rep pins s σ H x y v u Q I rx ry ⟨a, k, vals ts, ex, ey.trans (rc_int (holds_imm h2 e2)), g1, hz.1, hz.2.1, ?_, fun p hp => hr.list zk (r.rep k.toNat) rfl hp⟩
              rw [l1]; exact hz.2.2
          | imm _ _ => simp [VS.T.er] at e1
          | dct _ _ _ _ => simp [VS.T.er] at e1
          | tup _ _ => simp [VS.T.er] at e1
        · cases hk
      · cases hk
    · cases hk
  · split at hk
    · rename_i ho
      subst ho
      unfold catD at hk
      split at hk
      · rename_i xs ys e1 e2
        split at hk
        · rename_i as bs c1 c2
          split at hk
          · rename_i hz
            cases hk
            obtain ⟨p, vs, p1, p2, p3⟩ := list_imms h1 e1 c1
            obtain ⟨q, ws, q1, q2, q3⟩ := list_imms h2 e2 c2
            have l1 := p3.length
            have l2 := q3.length
            rw [ex, p1] at rx
            rw [ey, q1] at ry
            cases rx
            cases ry
            exact catL I p2 q2 (by omega) fun r hp => hr.list zk (p3.append q3) rfl hp
          · cases hk
        · cases hk
      · cases hk
    · cases hk
/-! comparisons -/
theorem op_cmpB {o : CmpOp} {f : Int → Int → Bool} (ho : OpR X (compareOp o) (rI0 fun i j => .bl (f i j)))
    {x y : V} {v u : Value} {Q : VK} {i j : Int} (I : Inv X pins σ H s) (rx : RelV x v) (ry : RelV y u) (ex : x = .int i) (ey : y = .int j) (q : Q (.bl (f i j)) H) : wpAny (model X.prog X.w) X.A (compareOp o v u) (EP X pins σ Q) X.xe s :=
  ho pins s σ H x y v u Q I rx ry ⟨i, j, ex, ey, q⟩
def cmpK (o : CmpOp) (x y : D) : Option D := (cmpD o x y).map fun b => .imm (.bool b)
theorem dp_seq {K : PySem.W.Frag} {Z : Addr → Prop} {t : VS.T} {ys : List D} {bs : List C} (h : Holds K Z H t) (e : t.er.seq? = some ys) (e2 : cs? ys = some bs) : Dp K H t.val (.list bs) ∨ Dp K H t.val (.tuple bs) := by
  have key : ∀ cs : List C, cs? (cs.map .imm) = some cs := by
    intro cs
    induction cs with
    | nil => rfl
    | cons c cs ih => rw [List.map_cons, cs?, ih]; rfl
  cases t with
  | imm v c =>
    have r := holds_imm h rfl
    simp only [VS.T.er] at e
    cases c <;> simp [D.seq?, D.list?, D.tuple?] at e
    · subst e; rw [key] at e2; cases e2; exact .inl r.dp
    · subst e; rw [key] at e2; cases e2; exact .inr r.dp
  | lst a ts =>
    simp only [VS.T.er, D.seq?, D.list?, Option.some.injEq] at e
    subst e
    exact .inl (h.dp (by simp [VS.T.er, D.c?, e2]))
  | tup a ts =>
    simp only [VS.T.er, D.seq?, D.list?, D.tuple?, Option.some.injEq] at e
    subst e
    exact .inr (h.dp (by simp [VS.T.er, D.c?, e2]))
  | dct _ _ _ _ => simp [VS.T.er, D.seq?, D.list?, D.tuple?] at e
theorem all_shaped {bs : List C} (h : bs.all okEq = true) : PyData.canLayAll0 bs = true ∧ ∀ b ∈ bs, b.depth ≤ 64 := by
  induction bs with
  | nil => exact ⟨rfl, fun _ h => nomatch h⟩
  | cons b bs ih =>
    simp only [List.all_cons, Bool.and_eq_true] at h
    obtain ⟨i1, i2⟩ := ih h.2
    refine ⟨by rw [PyData.canLayAll0, SeqAt.canLay_of_shaped h.1, i1]; rfl, fun c hc => ?_⟩
    rcases List.mem_cons.mp hc with e | hc
    · rw [e]; exact SeqAt.depth_of_shaped h.1
    · exact i2 c hc
theorem in_core (hu : X.A.units + 65 < cLine) {x y : V} {v u : Value} {Q : VK} {d : C} {ds : List C} (I : Inv X pins σ H s) (rx : RelV x v) (ry : RelV y u) (hd : Dp X.K H x d) (he : Dp X.K H y (.list ds) ∨ Dp X.K H y (.tuple ds)) (sd : okEq d = true) (se : ds.all okEq = true) :
    (Q (.bl (ds.any fun z => PyData.eqv z d)) H → wpAny (model X.prog X.w) X.A (compareOp .In v u) (EP X pins σ Q) X.xe s) ∧ (Q (.bl (!ds.any fun z => PyData.eqv z d)) H → wpAny (model X.prog X.w) X.A (compareOp .NotIn v u) (EP X pins σ Q) X.xe s) := by
  obtain ⟨as, g1⟩ := Dp.reads I d x v hd rx
  have cl := (all_shaped se).1
  have hroom := room_in_shaped (xs := ds) (show SeqAt.shaped d = true from sd) hu
  rcases he with he | he
  · obtain ⟨bs, g2⟩ := Dp.reads I _ y u he ry
    exact ⟨fun q => SeqAt.in_list_reads g2 g1 (by simpa [PyData.canLay0] using cl) (SeqAt.canLay_of_shaped sd) hroom ⟨.bl _, H, I, rfl, q⟩,
      fun q => SeqAt.notIn_list_reads g2 g1 (by simpa [PyData.canLay0] using cl) (SeqAt.canLay_of_shaped sd) hroom ⟨.bl _, H, I, rfl, q⟩⟩
  · obtain ⟨bs, g2⟩ := Dp.reads I _ y u he ry
    exact ⟨fun q => SeqAt.in_tuple_reads g2 g1 (by simpa [PyData.canLay0] using cl) (SeqAt.canLay_of_shaped sd) hroom ⟨.bl _, H, I, rfl, q⟩,
      fun q => SeqAt.notIn_tuple_reads g2 g1 (by simpa [PyData.canLay0] using cl) (SeqAt.canLay_of_shaped sd) hroom ⟨.bl _, H, I, rfl, q⟩⟩
theorem ne_non {K : PySem.W.Frag} {Z : Addr → Prop} {v : V} {c : C} (r : RC K Z H v c) (h : c ≠ .none) : v ≠ .non := by
  cases r <;> first | exact absurd rfl h | (intro e; cases e)
def isNoneD (x : D) : Bool := match x with
  | .imm .none => true
  | _ => false
theorem isNone_val {K : PySem.W.Frag} {Z : Addr → Prop} {t : VS.T} (h : Holds K Z H t) : decide (t.val = .non) = isNoneD t.er := by
  cases t with
  | imm v c =>
    have r := holds_imm h rfl
    cases c <;> first | (have e := rc_none r; simp [VS.T.val] at e; simp [VS.T.er, isNoneD, VS.T.val, e]) | (have e := ne_non r (by intro z; cases z); simp [VS.T.val] at e; simp [VS.T.er, isNoneD, VS.T.val, e])
  | lst a ts => simp [VS.T.er, isNoneD, VS.T.val]
  | tup a ts => simp [VS.T.er, isNoneD, VS.T.val]
  | dct _ _ _ _ => simp [VS.T.er, isNoneD, VS.T.val]
theorem one_sign {a : Str} {c : Nat} (h : a.cps.toList = [c]) : a = ⟨#[c]⟩ := by
  obtain ⟨l⟩ := a
  obtain ⟨l⟩ := l
  simp only at h
  subst h; rfl
theorem op_cmpK (hu : X.A.units + 65 < cLine) {o : CmpOp} : OpR X (compareOp o) (r2 X.K (cmpK o) n0) := by
  intro pins s σ H x y v u Q I rx ry h
  obtain ⟨Z, t1, t2, d, ex, ey, zk, h1, h2, hk, hr⟩ := h
  have hu64 : X.A.units + 64 < cLine := by omega
  unfold cmpK at hk
  cases hb : cmpD o t1.er t2.er with
  | none => rw [hb] at hk; cases hk
  | some b =>
    rw [hb] at hk
    simp only [Option.map_some, Option.some.injEq] at hk
    have qb : Q (.bl b) H := hr.imm (.bl b) hk.symm
    have hInts : ∀ (f : Int → Int → Bool), OpR X (compareOp o) (rI0 fun i j => .bl (f i j)) → (∀ i j, t1.er = .imm (.int i) → t2.er = .imm (.int j) → b = f i j) → (∃ i j, t1.er = .imm (.int i) ∧ t2.er = .imm (.int j)) → wpAny (model X.prog X.w) X.A (compareOp o v u) (EP X pins σ Q) X.xe s := by
      intro f ho hf hij
      obtain ⟨i, j, e1, e2⟩ := hij
      have := hf i j e1 e2
      subst this
      exact op_cmpB ho I rx ry (ex.trans (rc_int (holds_imm h1 e1))) (ey.trans (rc_int (holds_imm h2 e2))) qb
    cases o with
    | Eq =>
      simp only [cmpD, eqD] at hb
      split at hb
      · rename_i a c e1 e2
        split at hb
        · rename_i hs
          simp only [Bool.and_eq_true] at hs
          cases hb
          exact op_eqD hu64 pins s σ H x y v u Q I rx ry ⟨a, c, ex ▸ h1.dp e1, ey ▸ h2.dp e2, hs.1, hs.2, qb⟩
        · cases hb
      · cases hb
    | NotEq =>
      simp only [cmpD, eqD] at hb
      split at hb
      · rename_i a c e1 e2
        split at hb
        · rename_i hs
          simp only [Bool.and_eq_true] at hs
          simp only [Option.map_some, Option.some.injEq] at hb
          subst hb
          exact op_neD hu64 pins s σ H x y v u Q I rx ry ⟨a, c, ex ▸ h1.dp e1, ey ▸ h2.dp e2, hs.1, hs.2, qb⟩
        · cases hb
      · cases hb
    | Lt =>
      simp only [cmpD] at hb
      split at hb
      · rename_i i j e1 e2
        exact hInts _ op_lt (fun i' j' z1 z2 => by rw [e1] at z1; rw [e2] at z2; cases z1; cases z2; cases hb; rfl) ⟨i, j, e1, e2⟩
      · cases hb
    | LtE =>
      simp only [cmpD] at hb
      split at hb
      · rename_i i j e1 e2
        exact hInts _ op_le (fun i' j' z1 z2 => by rw [e1] at z1; rw [e2] at z2; cases z1; cases z2; cases hb; rfl) ⟨i, j, e1, e2⟩
      · cases hb
    | Gt =>
      simp only [cmpD] at hb
      split at hb
      · rename_i i j e1 e2
        exact hInts _ op_gt (fun i' j' z1 z2 => by rw [e1] at z1; rw [e2] at z2; cases z1; cases z2; cases hb; rfl) ⟨i, j, e1, e2⟩
      · cases hb
    | GtE =>
      simp only [cmpD] at hb
      split at hb
      · rename_i i j e1 e2
        exact hInts _ op_ge (fun i' j' z1 z2 => by rw [e1] at z1; rw [e2] at z2; cases z1; cases z2; cases hb; rfl) ⟨i, j, e1, e2⟩
      · cases hb
    | Is =>
      simp only [cmpD] at hb
      split at hb
      · rename_i e2
        refine op_isN pins s σ H x y v u Q I rx ry ⟨ey.trans (rc_none (holds_imm h2 e2)), ?_⟩
        rw [ex, isNone_val h1]
        have : isNoneD t1.er = b := by
          simp only [Option.some.injEq] at hb
          rw [← hb]; rfl
        rw [this]; exact qb
      · cases hb
    | IsNot =>
      simp only [cmpD] at hb
      split at hb
      · rename_i e2
        refine op_notN pins s σ H x y v u Q I rx ry ⟨ey.trans (rc_none (holds_imm h2 e2)), ?_⟩
        rw [ex, isNone_val h1]
        have : (!isNoneD t1.er) = b := by
          simp only [Option.some.injEq] at hb
          rw [← hb]
          unfold isNoneD
          split <;> rename_i z <;> simp [z]
        rw [this]; exact qb
      · cases hb
    | In =>
      simp only [cmpD, inD] at hb
      split at hb
      · rename_i a z e1 e2
        split at hb
        · rename_i c ec
          cases hb
          exact op_in_sign pins s σ H x y v u Q I rx ry ⟨c, z, (ex.trans (rc_str (holds_imm h1 e1))).trans (by rw [one_sign ec]), ey.trans (rc_str (holds_imm h2 e2)), qb⟩
        · cases hb
      · split at hb
        · rename_i a ys e1 e2
          split at hb
          · rename_i bs e3
            split at hb
            · rename_i hs
              simp only [Bool.and_eq_true] at hs
              cases hb
              exact (in_core hu I rx ry (ex ▸ h1.dp e1) (ey ▸ dp_seq h2 e2 e3) hs.1 hs.2).1 qb
            · cases hb
          · cases hb
        · cases hb
    | NotIn =>
      simp only [cmpD, inD] at hb
      split at hb
      · rename_i a z e1 e2
        split at hb
        · rename_i c ec
          simp only [Option.map_some, Option.some.injEq] at hb
          subst hb
          exact op_notIn_sign pins s σ H x y v u Q I rx ry ⟨c, z, (ex.trans (rc_str (holds_imm h1 e1))).trans (by rw [one_sign ec]), ey.trans (rc_str (holds_imm h2 e2)), qb⟩
        · cases hb
      · split at hb
        · rename_i a ys e1 e2
          split at hb
          · rename_i bs e3
            split at hb
            · rename_i hs
              simp only [Bool.and_eq_true] at hs
              simp only [Option.map_some, Option.some.injEq] at hb
              subst hb
              exact (in_core hu I rx ry (ex ▸ h1.dp e1) (ey ▸ dp_seq h2 e2 e3) hs.1 hs.2).2 qb
            · cases hb
          · cases hb
        · cases hb
/-! items -/
def b1 : VS.T → VS.T → Addr → Nat := fun t1 _ a => t1.cnt a
theorem atI_map {α β : Type} (f : α → β) (xs : List α) (i : Int) : L2.atI (xs.map f) i = (L2.atI xs i).map f := by
  unfold L2.atI
  rw [List.length_map]
  cases L2.ixN xs.length i with
  | none => rfl
  | some j => simp
theorem atI_mem {α : Type} {xs : List α} {i : Int} {x : α} (h : L2.atI xs i = some x) : ∃ j, L2.ixN xs.length i = some j ∧ xs[j]? = some x := by
  unfold L2.atI at h
  cases e : L2.ixN xs.length i with
  | none => rw [e] at h; cases h
  | some j => rw [e] at h; exact ⟨j, rfl, h⟩
theorem atI_of {α : Type} {xs : List α} {i : Int} {x : α} {j : Nat} (h1 : L2.ixN xs.length i = some j) (h2 : xs[j]? = some x) : L2.atI xs i = some x := by
  unfold L2.atI
  rw [h1]; exact h2
theorem op_item : IxR X (r2 X.K D.item? b1) := by
  intro value slice pins s σ H x y v u Q I rx ry h hs
  obtain ⟨Z, t1, t2, d, ex, ey, zk, h1, h2, hk, hr⟩ := h
  unfold D.item? at hk
  split at hk
  · rename_i i e2
    have a2 := rc_int (holds_imm h2 e2)
    split at hk
    · rename_i z e1
      split at hk
      · rename_i hz
        cases hc : L2.atI z.cps.toList i with
        | none => rw [hc] at hk; cases hk
        | some c =>
          rw [hc] at hk
          simp only [Option.map_some, Option.some.injEq] at hk
          exact ix_str value slice pins s σ H x y v u Q I rx ry ⟨z, i, c, ex.trans (rc_str (holds_imm h1 e1)), ey.trans a2, hz, hc, hr.imm (.str _) hk.symm⟩ hs
      · cases hk
    · split at hk
      · rename_i xs e1
        -- the item as a tree of t1
        have self : ∀ (a : Addr) (ts : List VS.T) (t : VS.T), HoldsL X.K Z H ts → L2.atI (ers ts) i = some d → (∀ b, cnts b ts ≤ t1.cnt b) → ∃ w, L2.atI (vals ts) i = some w ∧ Q w H := by
          intro a ts t hl he hc
          obtain ⟨j, j1, j2⟩ := atI_mem he
          rw [ers_map, List.length_map] at j1
          rw [ers_map, List.getElem?_map] at j2
          cases g : ts[j]? with
          | none => rw [g] at j2; cases j2
          | some t' =>
            rw [g] at j2
            simp only [Option.map_some, Option.some.injEq] at j2
            have ht := hl.get g
            refine ⟨t'.val, atI_of (by rw [List.length_map]; exact j1) (by rw [List.getElem?_map, g]; rfl), hr Z H t' j2 ⟨ht, W.refl, fun b _ => Nat.le_trans (cnts_le b g) (hc b), fun b hb => ?_⟩⟩
            by_cases z : 0 < t'.cnt b
            · exact absurd hb (ht.own z).2.some
            · omega
        have cont : ∀ (cs : List C) (vs : List V), RCs X.K Z H vs cs → L2.atI (cs.map D.imm) i = some d → ∃ w, L2.atI vs i = some w ∧ Q w H := by
          intro cs vs r he
          obtain ⟨j, j1, j2⟩ := atI_mem he
          rw [List.length_map] at j1
          rw [List.getElem?_map] at j2
          cases g : cs[j]? with
          | none => rw [g] at j2; cases j2
          | some c =>
            rw [g] at j2
            simp only [Option.map_some, Option.some.injEq] at j2
            obtain ⟨w, w1, w2⟩ := r.getC g
            exact ⟨w, atI_of (by rw [r.length]; exact j1) w1, hr.imm w2 j2.symm⟩
        cases t1 with
        | imm v1 c1 =>
          have r := holds_imm h1 rfl
          cases c1 <;> simp [VS.T.er, D.seq?, D.list?, D.tuple?] at e1
          · obtain ⟨p, vs, p1, p2, p3⟩ := rc_lst r
            subst e1
            obtain ⟨w, w1, w2⟩ := cont _ _ p3 hk
            exact ix_list value slice pins s σ H x y v u Q I rx ry ⟨p, vs, i, w, ex.trans p1, ey.trans a2, p2.sq, w1, w2⟩ hs
          · obtain ⟨p, vs, p1, p2, p3⟩ := rc_tup r
            subst e1
            obtain ⟨w, w1, w2⟩ := cont _ _ p3 hk
            exact ix_tup value slice pins s σ H x y v u Q I rx ry ⟨p, vs, i, w, ex.trans p1, ey.trans a2, p2, w1, w2⟩ hs
        | lst a ts =>
          simp only [VS.T.er, D.seq?, D.list?, Option.some.injEq] at e1
          subst e1
          cases h1 with
          | lst g1 g2 g3 =>
            obtain ⟨w, w1, w2⟩ := self a ts t2 g3 hk fun b => by rw [VS.T.cnt]; omega
            exact ix_list value slice pins s σ H x y v u Q I rx ry ⟨a, vals ts, i, w, ex, ey.trans a2, .of g1, w1, w2⟩ hs
        | tup a ts =>
          simp only [VS.T.er, D.seq?, D.list?, D.tuple?, Option.some.injEq] at e1
          subst e1
          cases h1 with
          | tup g1 g3 =>
            obtain ⟨w, w1, w2⟩ := self a ts t2 g3 hk fun b => by rw [VS.T.cnt]; omega
            exact ix_tup value slice pins s σ H x y v u Q I rx ry ⟨a, vals ts, i, w, ex, ey.trans a2, .of g1, w1, w2⟩ hs
        | dct _ _ _ _ => simp [VS.T.er, D.seq?, D.list?, D.tuple?] at e1
      · cases hk
  · cases hk
end
end VS

/-! VS5: built-ins, slices; joining of readings. -/
set_option linter.all false
set_option autoImplicit false
set_option maxRecDepth 100000
set_option maxHeartbeats 2000000
namespace VS
open PySem PySem.Spec PyProof.Rows L2
section
variable {K : PySem.W.Frag} {XR : XRel} {Wx : WX'} {Z Z' Z1 Z2 : Addr → Prop} {H H' H1 H2 : Hp} {σ : Sl} {ev ev' ev1 eva : EnvT}
theorem PE.imp {X : Cx} {e : Expr} {t t' : TE} (h : PE X e t) (w : ∀ σ H Q, t' σ H Q → t σ H Q) : PE X e t' := ⟨fun pins s σ H Q I q => h.run pins s σ H Q I (w _ _ _ q)⟩
theorem PT.imp {X : Cx} {e : Expr} {t t' : TT} (h : PT X e t) (w : ∀ σ H Q, t' σ H Q → t σ H Q) : PT X e t' := ⟨fun pins s σ H Q I q => h.run pins s σ H Q I (w _ _ _ q)⟩
theorem PW.imp {X : Cx} {e : Expr} {t t' : TT} (h : PW X e t) (w : ∀ σ H Q, t' σ H Q → t σ H Q) : PW X e t' := ⟨fun wh pins s σ H Q I q => h.run wh pins s σ H Q I (w _ _ _ q)⟩
theorem PA.imp {X : Cx} {e : List Expr} {t t' : TA} (h : PA X e t) (w : ∀ σ H Q, t' σ H Q → t σ H Q) : PA X e t' := ⟨fun p pins s σ H Q I q => h.run p pins s σ H Q I (w _ _ _ q)⟩
/-- the reading of an operation on operands -/
def rN (K : PySem.W.Frag) (kk : List D → Option D) : List V → Hp → VK → Prop := fun xs H Q => ∃ Z ts d, xs = vals ts ∧ ZOk Z H ∧ HoldsL K Z H ts ∧ kk (ers ts) = some d ∧ RN K (fun _ => 0) d Q Z H
theorem evN_tLn {e : E} {ps : List Dn} {kk : List D → Option D} (hp : ∀ p ∈ ps, DnOk p) (hv : isVar e = none) (ht : triv e = true → trivs (ps.map (·.1)) = true) {H : Hp} {Q : VK} (h : tE K XR Wx (e, evN ps kk) σ H Q) :
    tLn K XR Wx ps σ H fun xs H' => rN K kk xs H' Q := by
  obtain ⟨Z, ev, s, h⟩ := h
  refine evL_tLn (k := fun Z' H' ev' ts => rN K kk (vals ts) H' Q) s hp ?_ fun Z' H' ev' ts q => q
  unfold evN at h
  simp only at h
  cases hl : evL ps (erE ev) with
  | stuck => rw [hl] at h; exact h.elim
  | exn x env' => rw [hl] at h; exact h
  | ok ds env' =>
    rw [hl] at h
    intro Z1 H1 ev1 ts e1 e2 aft
    simp only [R.bind] at h
    subst e1
    cases hk : kk (ers ts) with
    | none => rw [hk] at h; exact h.elim
    | some d =>
      rw [hk] at h
      exact ⟨Z1, ts, d, rfl, aft.st.zk, aft.hd, hk, fun Z2 H2 t et n => h Z2 H2 ev1 t et e2 (aft.done n (.inr fun x => Nat.zero_le _) hv ht)⟩
/-- what comes first is dropped -/
theorem Aft.thn {e e2 : E} {t2 : VS.T} (a : AftX K Z H σ ev Z1 H1 ev1) (hn : ∀ x, H x = none → cntE x ev1 ≤ 1) (b : Aft K e2 Z1 H1 σ ev1 Z2 H2 eva t2) (hb : bw e = bw e2) (ht : triv e = false) (hv : isVar e = none) : Aft K e Z H σ ev Z2 H2 eva t2 := by
  have ho : ∀ x, own e t2 x = own e2 t2 x := fun x => by simp [own, hb]
  refine ⟨b.st, b.hd, a.w.trans b.w (se_le a.old), fun q => by (rw [ht] at q; cases q), fun x hx => ?_, fun x hx => ?_, fun i q => by (rw [hv] at q; cases q)⟩
  · have h1 := a.old x hx
    have h2 := b.old x (a.w.gr' hx)
    rw [ho]; omega
  · rw [ho]
    by_cases q : H1 x = none
    · exact b.new x q
    · have h2 := b.old x q
      have := hn x hx
      omega
theorem AftX.one (a : AftX K Z H σ ev Z1 H1 ev1) : ∀ x, H x = none → cntE x ev1 ≤ 1 := fun x _ => a.st.one x
theorem ER.after {e e2 : E} {r : R D} {k : (Addr → Prop) → Hp → EnvT → VS.T → Prop} (h : ER K XR Wx e Z H σ ev r k) (a : AftX K Z H σ ev Z1 H1 ev1) (hb : bw e = bw e2) (ht : triv e = false) (hv : isVar e = none) : ER K XR Wx e2 Z1 H1 σ ev1 r k := by
  cases r with
  | ok d env' => exact fun Z' H' ev' t e1 e2 b => h Z' H' ev' t e1 e2 (Aft.thn a a.one b hb ht hv)
  | exn x env' => exact XC.after h a
  | stuck => exact h
/-- contents alone: whatever was counted -/
theorem ER.after_imm {e : E} {c : C} {k : (Addr → Prop) → Hp → EnvT → VS.T → Prop} (h : ER K XR Wx e Z H σ ev (.ok (.imm c) (erE ev1)) k) (a : AftX K Z H σ ev Z1 H1 ev1) (ht : triv e = false) (hv : isVar e = none) {v : V} (r : RC K Z1 H1 v c) : k Z1 H1 ev1 (.imm v c) := by
  refine h Z1 H1 ev1 (.imm v c) rfl rfl ⟨a.st, .imm r, a.w, fun q => by (rw [ht] at q; cases q), fun x hx => ?_, fun x hx => ?_, fun i q => by (rw [hv] at q; cases q)⟩
  · have := a.old x hx
    rw [own_imm rfl]; omega
  · rw [own_imm rfl]
    have := a.st.one x
    omega
/-- by a truth -/
theorem evIf_ER {e c : E} {f : Env → R D} {ka kb : Env → R D} {k : (Addr → Prop) → Hp → EnvT → VS.T → Prop} (h : ER K XR Wx e Z H σ ev (evIf (f (erE ev)) ka kb) k) :
    ER K XR Wx c Z H σ ev (f (erE ev)) fun Z1 H1 ev1 t => ∃ b, t.val = .bl b ∧ ER K XR Wx e Z H σ ev (if b = true then ka (erE ev1) else kb (erE ev1)) k := by
  unfold evIf at h
  cases hf : f (erE ev) with
  | stuck => rw [hf] at h; exact h.elim
  | exn x env' => rw [hf] at h; exact h
  | ok d env1 =>
    rw [hf] at h
    intro Z1 H1 ev1 t et ee a
    simp only [R.bind] at h
    split at h
    · obtain ⟨v, rfl⟩ := er_imm et
      exact ⟨true, rc_bool (holds_imm a.hd rfl), by rw [if_pos rfl, ee]; exact h⟩
    · obtain ⟨v, rfl⟩ := er_imm et
      exact ⟨false, rc_bool (holds_imm a.hd rfl), by rw [if_neg (by decide), ee]; exact h⟩
    · exact h.elim
end
/-! ### built-ins -/
def biV : Bi → Value
  | .len => .builtin "len"
  | .int_ => .type "int"
  | .max_ => .builtin "max"
  | .min_ => .builtin "min"
  | .repr_ => .builtin "repr"
  | .tuple_ => .type "tuple"
  | .list_ => .type "list"
  | .all_ => .builtin "all"
  | .any_ => .builtin "any"
  | .sum_ => .builtin "sum"
  | .str_ => .type "str"
  | .dict_ => .type "dict"
  | .sorted_ => .builtin "sorted"
  | .set_ => .type "set"
section
variable {X : Cx} {H : Hp}
theorem bools_rcs {K : PySem.W.Frag} {Z : Addr → Prop} : ∀ {vs : List V} {cs : List C} {bs : List Bool}, RCs K Z H vs cs → bools? cs = some bs → vs = bs.map V.bl
  | _, _, bs, .nil, e => by simp [bools?] at e; subst e; rfl
  | _, _, bs, .cons (c := c) h r, e => by
    cases c <;> simp [bools?] at e
    obtain ⟨bs', e1, rfl⟩ := e
    rw [rc_bool h, bools_rcs r e1]; rfl
theorem seq_len {K : PySem.W.Frag} {Z : Addr → Prop} {t : VS.T} {xs : List D} (h : Holds K Z H t) (e : t.er.seq? = some xs) : ∃ p ys, t.val = .ref p ∧ (SqL K H p ys ∨ SqT K H p ys) ∧ ys.length = xs.length := by
  cases t with
  | imm v c =>
    have r := holds_imm h rfl
    simp only [VS.T.er] at e
    cases c <;> simp [D.seq?, D.list?, D.tuple?] at e
    · obtain ⟨p, vs, p1, p2, p3⟩ := rc_lst r
      exact ⟨p, vs, p1, .inl p2.sq, by rw [← e, List.length_map, p3.length]⟩
    · obtain ⟨p, vs, p1, p2, p3⟩ := rc_tup r
      exact ⟨p, vs, p1, .inr p2, by rw [← e, List.length_map, p3.length]⟩
  | lst a ts =>
    simp only [VS.T.er, D.seq?, D.list?, Option.some.injEq] at e
    subst e
    cases h with
    | lst g1 g2 g3 => exact ⟨a, vals ts, rfl, .inl (.of g1), by rw [ers_map, List.length_map, List.length_map]⟩
  | tup a ts =>
    simp only [VS.T.er, D.seq?, D.list?, D.tuple?, Option.some.injEq] at e
    subst e
    cases h with
    | tup g1 g3 => exact ⟨a, vals ts, rfl, .inr (.of g1), by rw [ers_map, List.length_map, List.length_map]⟩
  | dct _ _ _ _ => simp [VS.T.er, D.seq?, D.list?, D.tuple?] at e
theorem seq_imms {K : PySem.W.Frag} {Z : Addr → Prop} {t : VS.T} {xs : List D} {cs : List C} (h : Holds K Z H t) (e : t.er.seq? = some xs) (e2 : imms xs = some cs) : ∃ p vs, t.val = .ref p ∧ (SqL K H p vs ∨ SqT K H p vs) ∧ RCs K Z H vs cs := by
  unfold D.seq? at e
  split at e
  · rename_i ys e1
    cases e
    obtain ⟨a, vs, a1, a2, a3⟩ := list_imms h e1 e2
    exact ⟨a, vs, a1, .inl a2, a3⟩
  · obtain ⟨a, vs, a1, a2, a3⟩ := tuple_imms h e e2
    exact ⟨a, vs, a1, .inr a2, a3⟩
theorem ers_one {ts : List VS.T} {d : D} (e : ers ts = [d]) : ∃ t, ts = [t] ∧ t.er = d := by
  match ts, e with
  | [t], e => simp [ers] at e; exact ⟨t, rfl, e⟩
  | [], e => simp [ers] at e
  | _ :: _ :: _, e => simp [ers] at e
theorem ers_two {ts : List VS.T} {d d' : D} (e : ers ts = [d, d']) : ∃ t t', ts = [t, t'] ∧ t.er = d ∧ t'.er = d' := by
  match ts, e with
  | [t, t'], e => simp [ers] at e; exact ⟨t, t', rfl, e.1, e.2⟩
  | [], e => simp [ers] at e
  | [_], e => simp [ers] at e
  | _ :: _ :: _ :: _, e => simp [ers] at e
theorem ers_three {ts : List VS.T} {d d' d'' : D} (e : ers ts = [d, d', d'']) : ∃ t t' t'', ts = [t, t', t''] ∧ t.er = d ∧ t'.er = d' ∧ t''.er = d'' := by
  match ts, e with
  | [t, t', t''], e => simp [ers] at e; exact ⟨t, t', t'', rfl, e.1, e.2.1, e.2.2⟩
  | [], e => simp [ers] at e
  | [_], e => simp [ers] at e
  | [_, _], e => simp [ers] at e
  | _ :: _ :: _ :: _ :: _, e => simp [ers] at e
/-- repr of contents -/
theorem call_reprC (hg : X.A.guards = some []) (hu : X.A.units + 66 < cLine) {K : PySem.W.Frag} (hK : K = X.K) : CallR X (.builtin "repr") (fun xs H Q => ∃ v c, xs = [v] ∧ Dp K H v c ∧ c.showable = true ∧ c.hasDict = false ∧ c.depth ≤ 64 ∧ c.shown.length ≤ sizeLine ∧ Q (.str c.shown) H) := by
  subst hK
  intro pins s σ H xs us Q I r h
  obtain ⟨v, c, rfl, hd, h1, h2, h3, h4, q⟩ := h
  obtain ⟨u, rfl, ru⟩ := vals1 r
  obtain ⟨as, hr⟩ := Dp.reads I c v u hd ru
  cases hd with
  | non => cases ru; exact PySem.P.repr_of_none ⟨.str _, H, I.tok _, ⟨_, rfl⟩, q⟩
  | bl b => cases ru; exact PySem.P.repr_of_bool ⟨.str _, H, I.tok _, ⟨s.toks, by simp [PyData.shown]⟩, q⟩
  | int i =>
    obtain ⟨t, rfl⟩ := ru
    exact PySem.P.repr_of_int (by simpa [PyData.showable] using h1) ⟨.str _, H, I.tok _, ⟨s.toks, by simp [PyData.shown]⟩, q⟩
  | str x =>
    obtain ⟨t, rfl⟩ := ru
    exact PySem.P.repr_of_str (hsz := by simpa [PyData.shown] using h4) ⟨.str _, H, I.tok _, ⟨s.toks, by simp [PyData.shown]⟩, q⟩
  | lst g1 g2 =>
    cases ru
    exact repr_of_reads' hr h1 (PyData.noDict_hsm h2) hg (by omega) (fun _ _ e => e) (fun h' u tk hk => ⟨.str _, H, I.kept hk, ⟨_, rfl⟩, q⟩) h4
  | tup g1 g2 =>
    cases ru
    exact repr_of_reads' hr h1 (PyData.noDict_hsm h2) hg (by omega) (fun _ _ e => e) (fun h' u tk hk => ⟨.str _, H, I.kept hk, ⟨_, rfl⟩, q⟩) h4
theorem call_bi (hc : X.calm = true) (hg : X.A.guards = some []) (hu : X.A.units + 66 < cLine) (b : Bi) : CallR X (biV b) (rN X.K (biD b)) := by
  intro pins s σ H xs us Q I r h
  obtain ⟨Z, ts, d, rfl, zk, hl, hk, hr⟩ := h
  unfold biD at hk
  split at hk
  · -- len
    rename_i d1 ed
    obtain ⟨t, rfl, et⟩ := ers_one ed
    have ht := hl.all t (by simp)
    subst et
    split at hk
    · rename_i z ez
      split at hk
      · rename_i hz
        cases hk
        exact call_len_str pins s σ H _ us Q I r ⟨z, by simp [rc_str (holds_imm ht ez)], hz, hr.imm (.int _) rfl⟩
      · cases hk
    · split at hk
      · rename_i ys ey
        cases hk
        obtain ⟨p, ws, p1, p2, p3⟩ := seq_len ht ey
        refine call_len_seq pins s σ H _ us Q I r ⟨p, ws, by simp [p1], p2, ?_⟩
        rw [p3]
        exact hr.imm (.int _) rfl
      · cases hk
  · rename_i i ed
    obtain ⟨t, rfl, et⟩ := ers_one ed
    have ht := hl.all t (by simp)
    cases hk
    exact call_int1 pins s σ H _ us Q I r (.inl ⟨i, by simp [rc_int (holds_imm ht et)], hr.imm (.int _) rfl⟩)
  · rename_i k ed
    obtain ⟨t, rfl, et⟩ := ers_one ed
    have ht := hl.all t (by simp)
    cases hk
    exact call_int1 pins s σ H _ us Q I r (.inr ⟨k, by simp [rc_bool (holds_imm ht et)], hr.imm (.int _) rfl⟩)
  · rename_i i j ed
    obtain ⟨t, t', rfl, et, et'⟩ := ers_two ed
    have ht := hl.all t (by simp)
    have ht' := hl.all t' (by simp)
    cases hk
    exact call_max2 hc pins s σ H _ us Q I r ⟨i, j, by simp [rc_int (holds_imm ht et), rc_int (holds_imm ht' et')], hr.imm (.int _) rfl⟩
  · rename_i i j ed
    obtain ⟨t, t', rfl, et, et'⟩ := ers_two ed
    have ht := hl.all t (by simp)
    have ht' := hl.all t' (by simp)
    cases hk
    exact call_min2 hc pins s σ H _ us Q I r ⟨i, j, by simp [rc_int (holds_imm ht et), rc_int (holds_imm ht' et')], hr.imm (.int _) rfl⟩
  · -- repr
    rename_i d1 ed
    obtain ⟨t, rfl, et⟩ := ers_one ed
    have ht := hl.all t (by simp)
    subst et
    split at hk
    · rename_i c ec
      split at hk
      · rename_i hz
        cases hk
        simp only [Bool.and_eq_true, Bool.not_eq_true', decide_eq_true_eq] at hz
        exact call_reprC hg hu rfl pins s σ H _ us Q I r ⟨_, c, rfl, ht.dp ec, hz.1.1.1, hz.1.1.2, hz.1.2, hz.2, hr.imm (.str _) rfl⟩
      · cases hk
    · cases hk
  · -- tuple
    rename_i d1 ed
    obtain ⟨t, rfl, et⟩ := ers_one ed
    have ht := hl.all t (by simp)
    subst et
    split at hk
    · rename_i ys ey
      split at hk
      · rename_i cs ec
        cases hk
        obtain ⟨p, vs, p1, p2, p3⟩ := seq_imms ht ey ec
        refine call_tuple_of pins s σ H _ us Q I r ⟨p, vs, by simp [p1], ?_⟩
        rcases p2 with p2 | p2
        · exact .inl ⟨p2, fun l hl => hr.tup p3 rfl hl⟩
        · exact .inr ⟨p2, hr.imm (.tup p2 p3) rfl⟩
      · cases hk
    · cases hk
  · -- list
    rename_i d1 ed
    obtain ⟨t, rfl, et⟩ := ers_one ed
    have ht := hl.all t (by simp)
    subst et
    split at hk
    · rename_i ys ey
      split at hk
      · rename_i cs ec
        cases hk
        obtain ⟨p, vs, p1, p2, p3⟩ := seq_imms ht ey ec
        exact call_list_of pins s σ H _ us Q I r ⟨p, vs, by simp [p1], p2, fun l hl => hr.list zk p3 rfl hl⟩
      · cases hk
    · cases hk
  · -- all
    rename_i d1 ed
    obtain ⟨t, rfl, et⟩ := ers_one ed
    have ht := hl.all t (by simp)
    subst et
    split at hk
    · rename_i ys ey
      split at hk
      · rename_i cs ec
        cases eb : bools? cs with
        | none => rw [eb] at hk; cases hk
        | some bs =>
          rw [eb] at hk
          simp only [Option.map_some, Option.some.injEq] at hk
          obtain ⟨p, vs, p1, p2, p3⟩ := list_imms ht ey ec
          exact cr_all hc pins s σ H _ us Q I r ⟨p, bs, by simp [p1], bools_rcs p3 eb ▸ p2, hr.imm (.bl _) hk.symm⟩
      · cases hk
    · cases hk
  · -- any
    rename_i d1 ed
    obtain ⟨t, rfl, et⟩ := ers_one ed
    have ht := hl.all t (by simp)
    subst et
    split at hk
    · rename_i ys ey
      split at hk
      · rename_i cs ec
        cases eb : bools? cs with
        | none => rw [eb] at hk; cases hk
        | some bs =>
          rw [eb] at hk
          simp only [Option.map_some, Option.some.injEq] at hk
          obtain ⟨p, vs, p1, p2, p3⟩ := list_imms ht ey ec
          exact cr_any hc pins s σ H _ us Q I r ⟨p, bs, by simp [p1], bools_rcs p3 eb ▸ p2, hr.imm (.bl _) hk.symm⟩
      · cases hk
    · cases hk
  · cases hk
end
end VS

/-! VS6: displays, slices, calls of defs. -/
set_option linter.all false
set_option autoImplicit false
set_option maxRecDepth 100000
set_option maxHeartbeats 2000000
namespace VS
open PySem PySem.Spec PyProof.Rows L2
section
variable {K : PySem.W.Frag} {XR : XRel} {Wx : WX'} {Z Z' Z1 Z2 : Addr → Prop} {H H' H1 H2 : Hp} {σ : Sl} {ev ev' ev1 eva : EnvT}
theorem keptL_cnts : ∀ {es : List E} {ts : List VS.T} (a : Addr), keptL es ts → cnts a ts = owns es ts a
  | [], [], a, _ => rfl
  | e :: es, t :: ts, a, h => by rw [cnts, owns, keptL_cnts a h.2, h.1.cnt a]
  | [], _ :: _, _, h => h.elim
  | _ :: _, [], _, h => h.elim
theorem ers_length (ts : List VS.T) : (ers ts).length = ts.length := by rw [ers_map, List.length_map]
theorem HoldsL.keep0 (w : W Z H (fun _ => False) Z' H') {ts : List VS.T} (h : HoldsL K Z H ts) : HoldsL K Z' H' ts := h.keep w Soft.empty fun _ _ z => z
theorem Holds.keep0 (w : W Z H (fun _ => False) Z' H') {t : VS.T} (h : Holds K Z H t) : Holds K Z' H' t := h.keep w Soft.empty fun _ _ z => z
/-- a thing that holds kept ones, at a new address -/
theorem AftL.box {e : E} {es : List E} {ts : List VS.T} {p : Addr} {o : HO} {t : VS.T} (s : StOk K Z H σ ev) (a : AftL K es Z H σ ev Z1 H1 ev1 ts) (kl : keptL es ts) (hp : H1 p = none) (hd : Holds K Z1 (upd H1 p o) t)
    (hc : ∀ x, t.cnt x ≤ (if x = p then 1 else 0) + cnts x ts) (hv : isVar e = none) (ht : triv e = false) : Aft K e Z H σ ev Z1 (upd H1 p o) ev1 t := by
  have w : W Z1 H1 (fun _ => False) Z1 (upd H1 p o) := W.new hp
  refine ⟨a.st.kept0 w, hd, a.w.trans w (fun _ z => z.elim), fun q => by (rw [ht] at q; cases q), fun x hx => ?_, fun x hx => ?_, fun i q => by (rw [hv] at q; cases q)⟩
  · have h1 := a.old x hx
    have h2 := hc x
    have h3 := own_le e t x
    rw [← keptL_cnts x kl] at h1
    have : x ≠ p := fun z => a.w.gr' hx (by rw [z]; exact hp)
    rw [if_neg this] at h2
    omega
  · have h1 := a.new x hx
    have h2 := hc x
    have h3 := own_le e t x
    rw [← keptL_cnts x kl] at h1
    by_cases q : x = p
    · rw [if_pos q] at h2
      have z1 : cntE x ev1 = 0 := by
        by_cases z : 0 < cntE x ev1
        · exact absurd (q ▸ hp) (a.st.soft x z).2.some
        · omega
      have z2 : cnts x ts = 0 := by
        by_cases z : 0 < cnts x ts
        · exact absurd (q ▸ hp) (a.hd.own z).2.some
        · omega
      omega
    · rw [if_neg q] at h2; omega
/-- a tuple of things kept -/
theorem tup_tTup {es : List E} {ps : List Dn} (he : es = ps.map (·.1)) {Q : VK} (h : tE K XR Wx (.tup es, fun env => (evO ps env).bind fun ds env' => if ds.length ≤ sizeLine then .ok (mkTup ds) env' else .stuck) σ H Q) :
    tTup (tLn K XR Wx ps) σ H Q := by
  subst he
  obtain ⟨Z, ev, s, h⟩ := h
  simp only at h
  refine evO_tLn (k := fun Z1 H1 ev1 ts => ts.length ≤ sizeLine ∧ ∀ Z2 H2 t, t.er = mkTup (ers ts) → Aft K (.tup (ps.map (·.1))) Z H σ ev Z2 H2 ev1 t → Q t.val H2) s ?_ fun Z1 H1 ev1 ts aft kl q => ⟨by rw [List.length_map]; exact q.1, fun p hp => ?_⟩
  · cases hl : evO ps (erE ev) with
    | stuck => rw [hl] at h; exact h.elim
    | exn x env' => rw [hl] at h; exact h
    | ok ds env' =>
      rw [hl] at h
      intro Z1 H1 ev1 ts e1 e2 aft
      simp only [R.bind] at h
      split at h
      · rename_i hz
        subst e1
        rw [ers_length] at hz
        exact ⟨hz, fun Z2 H2 t et a2 => h Z2 H2 ev1 t et e2 a2⟩
      · exact h.elim
  · have w : W Z1 H1 (fun _ => False) Z1 (upd H1 p (.tup (vals ts))) := W.new hp
    cases hi : imms (ers ts) with
    | some cs =>
      refine q.2 Z1 _ (.imm (.ref p) (.tuple cs)) (by simp [mkTup, hi, VS.T.er]) (aft.box s kl hp (.imm (.tup (.of upd_same) ((imms_ers aft.hd hi).keep w Soft.empty))) (fun x => ?_) rfl rfl)
      simp [VS.T.cnt]
    | none =>
      refine q.2 Z1 _ (.tup p ts) (by simp [mkTup, hi, VS.T.er]) (aft.box s kl hp (.tup upd_same (aft.hd.keep0 w)) (fun x => ?_) rfl rfl)
      simp [VS.T.cnt]
theorem lst_tLst {es : List E} {ps : List Dn} (he : es = ps.map (·.1)) {Q : VK} (h : tE K XR Wx (.lst es, fun env => (evO ps env).bind fun ds env' => if ds.length ≤ sizeLine then .ok (.lst ds) env' else .stuck) σ H Q) :
    tLst (tLn K XR Wx ps) σ H Q := by
  subst he
  obtain ⟨Z, ev, s, h⟩ := h
  simp only at h
  refine evO_tLn (k := fun Z1 H1 ev1 ts => ts.length ≤ sizeLine ∧ ∀ Z2 H2 t, t.er = .lst (ers ts) → Aft K (.lst (ps.map (·.1))) Z H σ ev Z2 H2 ev1 t → Q t.val H2) s ?_ fun Z1 H1 ev1 ts aft kl q => ⟨by rw [List.length_map]; exact q.1, fun p hp => ?_⟩
  · cases hl : evO ps (erE ev) with
    | stuck => rw [hl] at h; exact h.elim
    | exn x env' => rw [hl] at h; exact h
    | ok ds env' =>
      rw [hl] at h
      intro Z1 H1 ev1 ts e1 e2 aft
      simp only [R.bind] at h
      split at h
      · rename_i hz
        subst e1
        rw [ers_length] at hz
        exact ⟨hz, fun Z2 H2 t et a2 => h Z2 H2 ev1 t et e2 a2⟩
      · exact h.elim
  · have w : W Z1 H1 (fun _ => False) Z1 (upd H1 p (.lst (vals ts))) := W.new hp
    refine q.2 Z1 _ (.lst p ts) rfl (aft.box s kl hp (.lst upd_same (fun z => aft.st.zk p z hp) (aft.hd.keep0 w)) (fun x => ?_) rfl rfl)
    simp [VS.T.cnt]
theorem dct_tDct {k : Bool} {Q : VK} (h : tE K XR Wx (.dct false [] [], fun env => .ok (.dct false []) env) σ H Q) : ∀ p, H p = none → Q (.ref p) (upd H p (.dK [])) := by
  obtain ⟨Z, ev, s, h⟩ := h
  intro p hp
  exact h Z _ ev (.dct p false [] []) rfl rfl ((AftL.nil s).box s trivial hp (.dctK (keys := []) upd_same rfl rfl (fun z => s.zk p z hp) .nil) (fun x => by simp [VS.T.cnt]) rfl rfl)
end

/-! ### slices -/
section
variable {X : Cx}
def rSl (K : PySem.W.Frag) : V → Option Int → Option Int → Hp → VK → Prop := fun x lo hi H Q => ∃ Z t d, x = t.val ∧ ZOk Z H ∧ Holds K Z H t ∧ sliceD t.er lo hi = some d ∧ RN K (fun _ => 0) d Q Z H
theorem sl_any : SlR X (rSl X.K) := by
  intro pins s σ H x v vl vu lo hi sl Q I rx hs pl pu h
  obtain ⟨Z, t, d, ex, zk, ht, hk, hr⟩ := h
  unfold sliceD at hk
  split at hk
  · cases hk
  · split at hk
    · rename_i xs _ e1
      split at hk
      · rename_i cs e2
        cases hk
        obtain ⟨a, vs, a1, a2, a3⟩ := list_imms ht e1 e2
        have hl := a3.length
        refine sl_list pins s σ H x v vl vu lo hi sl Q I rx hs pl pu ⟨a, vs, ex.trans a1, a2, fun p hp => hr.list zk ?_ rfl hp⟩
        unfold cutV
        rw [hl]
        exact (a3.drop _).take _
      · cases hk
    · rename_i xs e0 e1
      split at hk
      · rename_i cs e2
        cases hk
        obtain ⟨a, vs, a1, a2, a3⟩ := tuple_imms ht e1 e2
        have hl := a3.length
        refine sl_tupA pins s σ H x v vl vu lo hi sl Q I rx hs pl pu ⟨a, vs, ex.trans a1, a2, fun z => ?_, fun _ p hp => hr.tup ?_ rfl hp⟩
        · refine hr.imm (.tup a2 a3) ?_
          rw [← hl, z.1, z.2]
          simp [hl]
        · unfold cutV
          rw [hl]
          exact (a3.drop _).take _
      · cases hk
    · cases hk
end

/-! ### a def's promise where nothing guards -/
structure FnG (P : Program) (w : World) (K : PySem.W.Frag) (mg : Str → Option Value) (base : Heap) (k : Nat) (f : Addr) (fd : FuncData) (ps : List Str) (sp : Sp) : Prop where
  len : ∀ vs H Q E, sp vs H Q E → vs.length = ps.length
  run : ∀ (A : Around) (outer : List PySem.Env) (s : Shared) (H : Hp) (args : Args) (us : List Value) (vs : List V) (Q : VK) (E : XK), Room k A → A.guards = some [] → Env0 P w K mg base A outer s H → BindsTo s fd args (ps.zip us) → Vals vs us → sp vs H Q E →
    codeAny (model P w) A (.call (.ref f) args) (L2.CR (L2.CX P w) outer P w H s Q E) s
section
variable {X : Cx} {k : Nat} {f : Addr} {fd : FuncData} {ps : List Str} {sp : Sp} {E : L2.St → XK} {x : Str} {p pos : Pos} {e : Expr} {es : List Expr} {t : TA}
theorem run_fnG {pins : List (Addr × Obj)} {σ : Sl} {H : Hp} {s : Shared} {Q : VK} {us : List Value} {vs : List V} (F : FnG X.prog X.w X.K X.mg X.base k f fd ps sp) (hr : Room k X.A) (hg : X.A.guards = some []) (hb : Binds X.K fd ps []) (hx : PassesAt (L2.CX X.prog X.w) X σ (E σ))
    (I : Inv X pins σ H s) (r : Vals vs us) (h : sp vs H Q (E σ)) : wpAny (model X.prog X.w) X.A (call (.ref f) us) (EP X pins σ Q) X.xe s := by
  have lv := F.len _ _ _ _ h
  have lr := r.length
  have bnd : BindsTo s fd ⟨us, []⟩ (ps.zip us) := by
    have z := hb s us I.kIn (by rw [List.append_nil]; omega)
    rwa [List.append_nil] at z
  refine wpAny_call (codeAny_mono (F.run X.A X.stack s H ⟨us, []⟩ us vs Q (E σ) hr hg I.env0 bnd r h) fun res s' hq => ?_)
  match res, hq with
  | .error er, hq => exact hx pins H s er s' I hq
  | .ok (.ret u), hq => exact I.after hq
  | .ok .next, hq => exact False.elim hq
  | .ok .brk, hq => exact False.elim hq
  | .ok .cont, hq => exact False.elim hq
theorem pe_callG (F : FnG X.prog X.w X.K X.mg X.base k f fd ps sp) (hr : Room k X.A) (hgd : X.A.guards = some []) (hg : Gl X x) (hm : X.mg x = some (.ref f)) (hk : PySem.W.keepIn X.K (.ref f) = true) (hb : Binds X.K fd ps []) (hx : ∀ σ, PassesAt (L2.CX X.prog X.w) X σ (E σ))
    (ha : PA X (e :: es) t) (hdb : (x == ("__debug__" : Str)) = false) (he : starEach (e :: es) X.env = (false, eval e X.env) :: starEach es X.env) (hpl : (backTo pos (starEach es X.env)).any (·.1) = false) :
    PE X (.Call (.Name x p) (e :: es) [] pos) (tCallS sp E t) := by
  refine ⟨fun pins s σ H Q I h => wpAny_Call_Name_kw (ld_glob I hg hm ?_ hdb)⟩
  refine PySem.W.callWith_K (h₀ := X.base) I.ok.mod.kin hk (thn (ha.run pos pins s σ H _ I h) fun us s1 q0 => ?_) he hpl
  obtain ⟨vs, H1, I1, r, q⟩ := q0
  exact ⟨I1.kIn, run_fnG F hr hgd hb (hx σ) I1 r q⟩
end

/-! ### the promise by the evaluator -/
section
variable (K : PySem.W.Frag) (XR : XRel)
structure FRet (rb : List Bool) (Z : Addr → Prop) (H : Hp) (ts : List VS.T) (Z' : Addr → Prop) (H' : Hp) (us : List VS.T) (t : Option VS.T) : Prop where
  hdu : HoldsL K Z' H' us
  hdt : ∀ x, t = some x → Holds K Z' H' x
  w : W Z H (fun a => 0 < cnts a ts) Z' H'
  old : ∀ a, H a ≠ none → cnts a us + oc a t ≤ cnts a ts
  new : ∀ a, H a = none → cnts a us + oc a t ≤ 1
  same : ∀ j : Nat, rb[j]? = some false → ∀ u v, us[j]? = some u → ts[j]? = some v → u.val = v.val
  len : us.length = ts.length
def spF (Y : List D → CR) (rb : List Bool) (n : Nat) : Sp := fun vs H Q E => ∃ Z ts, vs = vals ts ∧ ts.length = n ∧ ZOk Z H ∧ HoldsL K Z H ts ∧ (∀ a, cnts a ts ≤ 1) ∧ match Y (ers ts) with
  | .ok d fin => ∀ Z' H' us t, ers us = fin → t.er = d → FRet K rb Z H ts Z' H' us (some t) → Q t.val H'
  | .exn x fin => ∀ Z' H' us cls dd, ers us = fin → FRet K rb Z H ts Z' H' us none → XR x cls dd Z' H' → E cls dd H'
  | .stuck => False
end
section
variable {K : PySem.W.Frag} {XR : XRel} {Wx : WX'} {Z Z' Z1 Z2 : Addr → Prop} {H H' H1 H2 : Hp} {σ : Sl} {ev ev' ev1 eva : EnvT}
theorem rd_er {i : Nat} {t : VS.T} (h : ev[i]? = some (some t)) : rd i (erE ev) = some t.er := by
  unfold rd; rw [erE_get, h]; rfl
theorem argsOk_set {i : Nat} {o : Option VS.T} : ∀ {es : List E} {ts : List VS.T}, argsOk ev es ts → (varsOf es).contains i = false → argsOk (ev.set i o) es ts
  | [], [], _, _ => trivial
  | [], _ :: _, h, _ => h.elim
  | _ :: _, [], h, _ => h.elim
  | e :: es, t :: ts, h, hc => by
    obtain ⟨h1, h2⟩ := h
    cases hv : isVar e with
    | some j =>
      obtain rfl := isVar_some hv
      simp only [varsOf, List.contains_cons, Bool.or_eq_false_iff] at hc
      refine ⟨?_, argsOk_set h2 hc.2⟩
      simp only [isVar] at h1 ⊢
      rw [List.getElem?_set_ne (by simpa using hc.1)]
      exact h1
    | none =>
      have hc' : (varsOf es).contains i = false := by
        cases e <;> simp [isVar] at hv <;> exact hc
      refine ⟨?_, argsOk_set h2 hc'⟩
      simp only [hv] at h1 ⊢
      exact h1
theorem lendOk_set {i : Nat} {o : Option D} {env : Env} : ∀ {es : List E}, lendOk es env = true → (varsOf es).contains i = false → lendOk es (env.set i o) = true
  | [], _, _ => rfl
  | e :: es, h, hc => by
    cases hv : isVar e with
    | some j =>
      obtain rfl := isVar_some hv
      simp only [varsOf, List.contains_cons, Bool.or_eq_false_iff] at hc
      simp only [lendOk, Bool.and_eq_true] at h ⊢
      have : rd j (env.set i o) = rd j env := by unfold rd; rw [List.getElem?_set_ne (by simpa using hc.1)]
      rw [this]
      exact ⟨h.1, lendOk_set h.2 hc.2⟩
    | none =>
      cases e <;> simp [isVar] at hv <;> (simp only [lendOk, varsOf] at h hc ⊢; exact lendOk_set h hc)
/-- what was lent comes back -/
theorem give_back : ∀ {es : List E} {ts us : List VS.T} {rbs : List Bool} {ev : EnvT} {env2 : Env}, argsOk ev es ts → lendOk es (erE ev) = true → us.length = ts.length → giveBack es rbs (ers us) (erE ev) = some env2 →
    (∀ j : Nat, rbs[j]? = some false → ∀ u v, us[j]? = some u → ts[j]? = some v → u.val = v.val) →
    ∃ ev0 ev2 : EnvT, erE ev2 = env2 ∧ ev0.length = ev.length ∧ ev2.length = ev.length ∧ (∀ a, cntE a ev + owns es ts a = cntE a ev0 + cnts a ts) ∧ (∀ a, cntE a ev2 ≤ cntE a ev0 + cnts a us) ∧
      (∀ i, (varsOf es).contains i = false → ev0[i]? = ev[i]?) ∧ (∀ (i : Nat) (t : VS.T), ev0[i]? = some (some t) → ev[i]? = some (some t)) ∧
      ∀ (i : Nat) (t : VS.T), ev2[i]? = some (some t) → ev0[i]? = some (some t) ∨ (t ∈ us ∧ ∃ t0 : VS.T, ev[i]? = some (some t0) ∧ t.val = t0.val)
  | [], [], us, rbs, ev, env2, _, _, hl, hg, _ => by
    cases us with
    | cons _ _ => simp at hl
    | nil =>
      cases rbs with
      | cons _ _ => simp [giveBack, ers] at hg
      | nil =>
        simp [giveBack, ers] at hg
        subst hg
        exact ⟨ev, ev, rfl, rfl, rfl, fun a => by simp [owns, cnts], fun a => by simp [cnts], fun _ _ => rfl, fun _ _ h => h, fun _ _ h => .inl h⟩
  | [], _ :: _, _, _, _, _, h, _, _, _, _ => h.elim
  | _ :: _, [], _, _, _, _, h, _, _, _, _ => h.elim
  | e :: es, t :: ts, [], _, _, _, _, _, hl, _, _ => by simp at hl
  | e :: es, t :: ts, u :: us, [], ev, env2, _, _, _, hg, _ => by
    cases e <;> simp [giveBack, ers] at hg
  | e :: es, t :: ts, u :: us, rb :: rbs, ev, env2, ha, hlend, hl, hg, hs => by
    obtain ⟨h1, h2⟩ := ha
    have hs' : ∀ j : Nat, rbs[j]? = some false → ∀ u v, us[j]? = some u → ts[j]? = some v → u.val = v.val := fun j hj u' v' hu hv => hs (j + 1) (by simpa using hj) u' v' (by simpa using hu) (by simpa using hv)
    cases hv : isVar e with
    | some i =>
      obtain rfl := isVar_some hv
      simp only [isVar] at h1
      simp only [lendOk, Bool.and_eq_true, rd_er h1] at hlend
      simp only [ers, giveBack, rd_er h1] at hg
      split at hg
      · rename_i hi
        obtain ⟨v, c, rfl⟩ := isImm_er hi
        obtain ⟨ev0, ev2, g1, g2, g3, g4, g5, gv, g6, g7⟩ := give_back h2 hlend.2 (by simpa using hl) hg hs'
        refine ⟨ev0, ev2, g1, g2, g3, fun a => ?_, fun a => ?_, fun j hj => ?_, g6, fun j t' hj => ?_⟩
        · have := g4 a; simp [owns, own, bw, cnts, VS.T.cnt]; omega
        · have := g5 a; simp [cnts]; omega
        · simp only [varsOf, List.contains_cons, Bool.or_eq_false_iff] at hj
          exact gv j hj.2
        · rcases g7 j t' hj with z | ⟨z1, z2⟩
          · exact .inl z
          · exact .inr ⟨List.mem_cons_of_mem _ z1, z2⟩
      · cases hg
      · rename_i hi
        have hnc : (varsOf es).contains i = false := by
          have := hlend.1
          rw [hi] at this
          simpa using this
        have hrb : u.val = t.val := hs 0 rfl u t rfl rfl
        have hset : (erE ev).set i (some u.er) = erE (ev.set i (some u)) := by rw [erE_set]; rfl
        rw [hset] at hg
        have hi' : i < ev.length := (List.getElem?_eq_some_iff.mp h1).1
        obtain ⟨ev0, ev2, g1, g2, g3, g4, g5, gv, g6, g7⟩ := give_back (ev := ev.set i (some u)) (argsOk_set h2 hnc) (by rw [← hset]; exact lendOk_set hlend.2 hnc) (by simpa using hl) hg hs'
        have key : ∀ a, cntE a (ev.set i (some u)) + t.cnt a = cntE a ev + u.cnt a := fun a => by
          have := cntE_set a (ev := ev) (some u) h1
          simpa [oc] using this
        have h0 : ev0[i]? = some (some u) := by rw [gv i hnc, List.getElem?_set_self hi']
        have k0 : ∀ a, cntE a (ev0.set i none) + u.cnt a = cntE a ev0 := fun a => by
          have := cntE_set a (ev := ev0) none h0
          simpa [oc] using this
        refine ⟨ev0.set i none, ev2, g1, by rw [List.length_set, g2, List.length_set], by rw [g3, List.length_set], fun a => ?_, fun a => ?_, fun j hj => ?_, fun j t' hj => ?_, fun j t' hj => ?_⟩
        · have h3 := g4 a
          have h4 := key a
          have h5 := k0 a
          simp [owns, own, bw, cnts]; omega
        · have h3 := g5 a
          have h5 := k0 a
          simp [cnts]; omega
        · simp only [varsOf, List.contains_cons, Bool.or_eq_false_iff] at hj
          have hji : j ≠ i := by simpa using hj.1
          rw [List.getElem?_set_ne (Ne.symm hji), gv j hj.2, List.getElem?_set_ne (Ne.symm hji)]
        · by_cases q : i = j
          · subst q; rw [List.getElem?_set_self (by rw [g2, List.length_set]; exact hi')] at hj; cases hj
          · rw [List.getElem?_set_ne q] at hj
            have := g6 j t' hj
            rwa [List.getElem?_set_ne q] at this
        · rcases g7 j t' hj with z | ⟨z1, t0, z2, z3⟩
          · by_cases q : i = j
            · subst q
              rw [h0] at z; cases z
              exact .inr ⟨List.mem_cons_self, t, h1, hrb⟩
            · exact .inl (by rw [List.getElem?_set_ne q]; exact z)
          · by_cases q : i = j
            · subst q
              rw [List.getElem?_set_self hi'] at z2; cases z2
              exact .inr ⟨List.mem_cons_of_mem _ z1, t, h1, z3.trans hrb⟩
            · rw [List.getElem?_set_ne q] at z2
              exact .inr ⟨List.mem_cons_of_mem _ z1, t0, z2, z3⟩
    | none =>
      simp only [hv] at h1
      have hl' : lendOk es (erE ev) = true := by cases e <;> simp [isVar] at hv <;> exact hlend
      have hg' : giveBack es rbs (ers us) (erE ev) = some env2 := by cases e <;> simp [isVar] at hv <;> simpa [giveBack, ers] using hg
      have hvo : varsOf (e :: es) = varsOf es := by cases e <;> simp [isVar] at hv <;> rfl
      obtain ⟨ev0, ev2, g1, g2, g3, g4, g5, gv, g6, g7⟩ := give_back h2 hl' (by simpa using hl) hg' hs'
      rw [hvo]
      refine ⟨ev0, ev2, g1, g2, g3, fun a => ?_, fun a => ?_, gv, g6, fun j t' hj => ?_⟩
      · have h3 := g4 a
        have h4 := h1.cnt a
        simp [owns, cnts]; omega
      · have := g5 a; simp [cnts]; omega
      · rcases g7 j t' hj with z | ⟨z1, z2⟩
        · exact .inl z
        · exact .inr ⟨List.mem_cons_of_mem _ z1, z2⟩
end
end VS

/-! VS7: a call's reading. -/
set_option linter.all false
set_option autoImplicit false
set_option maxRecDepth 100000
set_option maxHeartbeats 2000000
namespace VS
open PySem PySem.Spec PyProof.Rows L2
section
variable {K : PySem.W.Frag} {XR : XRel} {Wx : WX'} {Z Z' Z1 Z2 : Addr → Prop} {H H' H1 H2 : Hp} {σ : Sl} {ev ev' ev1 eva : EnvT}
theorem lend_cnts (a : Addr) : ∀ {es : List E} {ts : List VS.T} {ev : EnvT}, argsOk ev es ts → lendOk es (erE ev) = true → cnts a ts ≤ cntE a ev + owns es ts a
  | [], [], _, _, _ => by simp [cnts]
  | [], _ :: _, _, h, _ => h.elim
  | _ :: _, [], _, h, _ => h.elim
  | e :: es, t :: ts, ev, h, hl => by
    obtain ⟨h1, h2⟩ := h
    cases hv : isVar e with
    | some i =>
      obtain rfl := isVar_some hv
      simp only [isVar] at h1
      simp only [lendOk, Bool.and_eq_true, rd_er h1] at hl
      by_cases hi : isImm t.er = true
      · obtain ⟨v, c, rfl⟩ := isImm_er hi
        have := lend_cnts a h2 hl.2
        simp [cnts, owns, VS.T.cnt, own, bw]; omega
      · have hnc : (varsOf es).contains i = false := by
          have := hl.1
          rw [Bool.not_eq_true] at hi
          rw [hi] at this
          simpa using this
        have hset : (erE ev).set i none = erE (ev.set i none) := by rw [erE_set]; rfl
        have ih := lend_cnts a (ev := ev.set i none) (argsOk_set h2 hnc) (by rw [← hset]; exact lendOk_set hl.2 hnc)
        have key := cntE_set a (ev := ev) none h1
        simp [cnts, owns, own, bw, oc] at key ⊢; omega
    | none =>
      simp only [hv] at h1
      have hl' : lendOk es (erE ev) = true := by cases e <;> simp [isVar] at hv <;> exact hl
      have := lend_cnts a h2 hl'
      have h4 := h1.cnt a
      simp [cnts, owns]; omega
theorem owns_le (a : Addr) : ∀ (es : List E) (ts : List VS.T), owns es ts a ≤ cnts a ts
  | [], ts => by simp [owns]
  | _ :: _, [] => by simp [owns]
  | e :: es, t :: ts => by
    have := owns_le a es ts
    have := own_le e t a
    simp [owns, cnts]; omega
/-- the caller's slots behind a call -/
theorem call_back {es : List E} {ts us : List VS.T} {rb : List Bool} {t : Option VS.T} {env2 : Env} (s : StOk K Z H σ ev) (aft : AftL K es Z H σ ev Z1 H1 ev1 ts) (ao : argsOk ev1 es ts) (hl : lendOk es (erE ev1) = true)
    (r : FRet K rb Z1 H1 ts Z2 H2 us t) (hg : giveBack es rb (ers us) (erE ev1) = some env2) :
    ∃ ev2, erE ev2 = env2 ∧ StOk K Z2 H2 σ ev2 ∧ W Z H (SE ev) Z2 H2 ∧ (∀ a, H a ≠ none → cntE a ev2 + oc a t ≤ cntE a ev) ∧ ∀ a, H a = none → cntE a ev2 + oc a t ≤ 1 := by
  obtain ⟨ev0, ev2, g1, g2, g3, g4, g5, gv, g6, g7⟩ := give_back ao hl r.len hg r.same
  have lc := fun a => lend_cnts a ao hl
  have dead1 : ∀ a, H1 a = none → cntE a ev1 = 0 ∧ cnts a ts = 0 := fun a ha => by
    constructor
    · by_cases z : 0 < cntE a ev1
      · exact absurd ha (aft.st.soft a z).2.some
      · omega
    · by_cases z : 0 < cnts a ts
      · exact absurd ha (aft.hd.own z).2.some
      · omega
  have sum1 : ∀ a, cntE a ev1 + owns es ts a ≤ 1 := fun a => by
    by_cases q : H a = none
    · exact aft.new a q
    · have := aft.old a q; have := s.one a; omega
  have old : ∀ a, H a ≠ none → cntE a ev2 + oc a t ≤ cntE a ev := fun a ha => by
    have h1 := aft.old a ha
    have h2 := r.old a (aft.w.gr' ha)
    have h3 := g4 a
    have h4 := g5 a
    omega
  have new : ∀ a, H a = none → cntE a ev2 + oc a t ≤ 1 := fun a ha => by
    have h3 := g4 a
    have h4 := g5 a
    by_cases q : H1 a = none
    · have h2 := r.new a q
      have h5 := dead1 a q
      have h6 := owns_le a es ts
      omega
    · have h2 := r.old a q
      have h5 := sum1 a
      omega
  have soft1 : Soft Z1 H1 (fun a => 0 < cnts a ts) := fun a ha => aft.hd.own ha
  refine ⟨ev2, g1, ⟨?_, fun i t' h => ?_, fun i t' h => ?_, fun a => ?_, r.w.ze aft.st.zk⟩, aft.w.trans r.w fun a ha => ?_, old, new⟩
  · rw [g3]; exact aft.st.len
  · rcases g7 i t' h with z | ⟨_, t0, z1, z2⟩
    · exact aft.st.val i t' (g6 i t' z)
    · rw [aft.st.val i t0 z1, z2]
  · rcases g7 i t' h with z | ⟨z, _⟩
    · refine (aft.st.hold i t' (g6 i t' z)).keep r.w soft1 fun a ha hc => ?_
      have h1 := g4 a
      have h2 := sum1 a
      have h3 := cntE_le a z
      simp only [oc] at h3
      omega
    · exact r.hdu.all t' z
  · by_cases q : H a = none
    · have := new a q; omega
    · have := old a q; have := s.one a; omega
  · by_cases q : H a = none
    · exact .inr q
    · have h1 := aft.old a q
      have h2 := lc a
      have ha : 0 < cnts a ts := ha
      exact .inl (by show 0 < cntE a ev; omega)
/-- a call's reading -/
theorem call_tLn {Y : Ctx} {f n : Nat} {ps : List Dn} (hp : ∀ p ∈ ps, DnOk p) (hn : ps.length = n) {Q : VK} (h : tE K XR Wx (.call f (ps.map (·.1)), evCall Y f ps) σ H Q) :
    tLn K XR Wx ps σ H fun vs H1 => spF K XR (Y.call f) (Y.rb f) n vs H1 Q fun cls d H' => Wx cls d σ H' := by
  obtain ⟨Z, ev, s, h⟩ := h
  refine evA_tLn (k := fun Z1 H1 ev1 ts => lendOk (ps.map (·.1)) (erE ev1) = true ∧ match Y.call f (ers ts) with
    | .ok d fin => ∃ env2, giveBack (ps.map (·.1)) (Y.rb f) fin (erE ev1) = some env2 ∧ ER K XR Wx (.call f (ps.map (·.1))) Z H σ ev (.ok d env2) fun _ H' _ t => Q t.val H'
    | .exn x fin => ∃ env2, giveBack (ps.map (·.1)) (Y.rb f) fin (erE ev1) = some env2 ∧ XC K XR Wx Z H σ ev x env2
    | .stuck => False) s hp ?_ fun Z1 H1 ev1 ts aft ao q => ?_
  · unfold evCall at h
    simp only at h
    cases hl : evA ps (erE ev) with
    | stuck => rw [hl] at h; exact h.elim
    | exn x env' => rw [hl] at h; exact h
    | ok ds env' =>
      rw [hl] at h
      intro Z1 H1 ev1 ts e1 e2 aft
      simp only [R.bind] at h
      subst e1
      rw [e2]
      split at h
      · rename_i hlend
        refine ⟨hlend, ?_⟩
        cases hc : Y.call f (ers ts) with
        | stuck => rw [hc] at h; exact h.elim
        | ok d fin =>
          rw [hc] at h
          simp only at h ⊢
          cases hb : giveBack (ps.map (·.1)) (Y.rb f) fin env' with
          | none => rw [hb] at h; exact h.elim
          | some env2 => rw [hb] at h; exact ⟨env2, rfl, h⟩
        | exn x fin =>
          rw [hc] at h
          simp only at h ⊢
          cases hb : giveBack (ps.map (·.1)) (Y.rb f) fin env' with
          | none => rw [hb] at h; exact h.elim
          | some env2 => rw [hb] at h; exact ⟨env2, rfl, h⟩
      · exact h.elim
  · obtain ⟨hlend, q⟩ := q
    refine ⟨Z1, ts, rfl, by rw [aft.len, List.length_map, hn], aft.st.zk, aft.hd, fun a => ?_, ?_⟩
    · have h1 := lend_cnts a ao hlend
      by_cases q : H a = none
      · have := aft.new a q; omega
      · have := aft.old a q; have := s.one a; omega
    · cases hc : Y.call f (ers ts) with
      | stuck => rw [hc] at q; exact q
      | ok d fin =>
        rw [hc] at q
        obtain ⟨env2, hg, q⟩ := q
        intro Z2 H2 us t e1 e2 r
        rw [← e1] at hg
        obtain ⟨ev2, b1, b2, b3, b4, b5⟩ := call_back s aft ao hlend r hg
        refine q Z2 H2 ev2 t e2 b1 ⟨b2, r.hdt t rfl, b3, fun z => by (cases z), fun a ha => ?_, fun a ha => ?_, fun i z => by (cases z)⟩
        · have := b4 a ha; simpa [own, bw, oc] using this
        · have := b5 a ha; simpa [own, bw, oc] using this
      | exn x fin =>
        rw [hc] at q
        obtain ⟨env2, hg, q⟩ := q
        intro Z2 H2 us cls dd e1 r hx
        rw [← e1] at hg
        obtain ⟨ev2, b1, b2, b3, b4, b5⟩ := call_back s aft ao hlend r hg
        exact q Z2 H2 ev2 cls dd b1 ⟨b2, b3, fun a ha => by have := b4 a ha; simp [oc] at this; exact this⟩ hx
end
end VS

/-! VS8: lists changed by their methods. -/
set_option linter.all false
set_option autoImplicit false
set_option maxRecDepth 100000
set_option maxHeartbeats 2000000
namespace VS
open PySem PySem.Spec PyProof.Rows L2
section
variable {K : PySem.W.Frag} {XR : XRel} {Wx : WX'} {Z Z' Z1 Z2 : Addr → Prop} {H H' H1 H2 : Hp} {σ : Sl} {ev ev' ev1 ev2 eva : EnvT}
/-- by values: the list at t is changed -/
def rMu (K : PySem.W.Frag) (m : Mu) : V → List V → Hp → VK → Prop := fun x vs H Q => ∃ Z a xs ts d' out, x = .ref a ∧ vs = vals ts ∧ H a = some (.lst (vals xs)) ∧ muL m (ers xs) (ers ts) = some (d', out) ∧ HoldsL K Z H ts ∧
  ∀ xs', (∀ u ∈ xs', u ∈ xs ∨ u ∈ ts) → (∀ b, cnts b xs' ≤ cnts b xs + cnts b ts) → d' = ers xs' → out = .imm .none → Q .non (upd H a (.lst (vals xs')))
theorem cnts_reverse (b : Addr) (xs : List VS.T) : cnts b xs.reverse = cnts b xs := by
  induction xs with
  | nil => rfl
  | cons x xs ih => rw [List.reverse_cons, cnts_append, ih, cnts, cnts, cnts]; omega
theorem ers_append (xs ys : List VS.T) : ers (xs ++ ys) = ers xs ++ ers ys := by simp [ers_map]
theorem cnts_split (b : Addr) (n : Nat) (xs : List VS.T) : cnts b (xs.take n) + cnts b (xs.drop n) = cnts b xs := by rw [← cnts_append, List.take_append_drop]
def muId : Mu → String
  | .append => "list.append"
  | .insert => "list.insert"
  | .pop => "list.pop"
  | .popAt => "list.pop"
  | .reverse => "list.reverse"
  | .clear => "list.clear"
  | .extend => "list.extend"
  | .remove => "list.remove"
theorem mt_mu {X : Cx} (m : Mu) : MtR X (muId m) (rMu X.K m) := by
  intro pins s σ H x vs v us Q I rx rs h
  obtain ⟨Z, a, xs, ts, d', out, rfl, rfl, hH, hk, hts, q⟩ := h
  cases m <;> simp only [muL] at hk
  · -- append
    split at hk
    · rename_i d0 ed
      obtain ⟨t, rfl, et⟩ := ers_one ed
      split at hk
      · rename_i hz
        simp only [Option.some.injEq, Prod.mk.injEq] at hk
        obtain ⟨rfl, rfl⟩ := hk
        refine mt_append pins s σ H _ _ v us Q I rx rs ⟨a, vals xs, t.val, rfl, rfl, hH, by simpa [ers_map] using hz, ?_⟩
        have := q (xs ++ [t]) (fun u hu => by simpa using hu) (fun b => by rw [cnts_append]; omega) (by rw [ers_append]; simp [ers, et]) rfl
        simpa [vals] using this
      · cases hk
    · cases hk
  · -- insert
    split at hk
    · rename_i i d0 ed
      obtain ⟨t1, t, rfl, e1, et⟩ := ers_two ed
      split at hk
      · rename_i hz
        simp only [Option.some.injEq, Prod.mk.injEq] at hk
        obtain ⟨rfl, rfl⟩ := hk
        have hv1 := rc_int (holds_imm (hts.all t1 (by simp)) e1)
        have hlen : (ers xs).length = xs.length := ers_length xs
        refine mt_insert pins s σ H _ _ v us Q I rx rs ⟨a, vals xs, i, t.val, rfl, by simp [hv1], hH, by simpa [ers_map] using hz.2.2, hz.1, ?_, ?_⟩
        · have := line63
          have h2 := hz.2
          omega
        · have := q (xs.take i.toNat ++ t :: xs.drop i.toNat) (fun u hu => ?_) (fun b => ?_) ?_ rfl
          · simpa [vals, List.append_assoc] using this
          · rcases List.mem_append.mp hu with h1 | h1
            · exact .inl (List.mem_of_mem_take h1)
            · rcases List.mem_cons.mp h1 with h1 | h1
              · exact .inr (by simp [h1])
              · exact .inl (List.mem_of_mem_drop h1)
          · rw [cnts_append]
            simp only [cnts]
            have := cnts_split b i.toNat xs
            omega
          · simp [ers_map, et]
      · cases hk
    · cases hk
  · cases hk
  · cases hk
  · -- reverse
    split at hk
    · rename_i ed
      simp only [Option.some.injEq, Prod.mk.injEq] at hk
      obtain ⟨rfl, rfl⟩ := hk
      have : ts = [] := by cases ts with | nil => rfl | cons _ _ => simp [ers] at ed
      subst this
      refine mt_reverse pins s σ H _ _ v us Q I rx rs ⟨a, vals xs, rfl, rfl, hH, ?_⟩
      have := q xs.reverse (fun u hu => .inl (by simpa using hu)) (fun b => by rw [cnts_reverse]; omega) (by simp [ers_map]) rfl
      simpa [vals] using this
    · cases hk
  · -- clear
    split at hk
    · rename_i ed
      simp only [Option.some.injEq, Prod.mk.injEq] at hk
      obtain ⟨rfl, rfl⟩ := hk
      have : ts = [] := by cases ts with | nil => rfl | cons _ _ => simp [ers] at ed
      subst this
      refine mt_clear pins s σ H _ _ v us Q I rx rs ⟨a, vals xs, rfl, rfl, hH, ?_⟩
      exact q [] (fun u hu => by simp at hu) (fun b => by simp [cnts]) rfl rfl
    · cases hk
  · cases hk
  · cases hk
/-- the slots behind a change of the list at a slot -/
theorem set_slot {i : Nat} {a : Addr} {xs xs' : List VS.T} (s : StOk K Z H σ ev) (hi : ev[i]? = some (some (.lst a xs))) {c : Addr → Nat} (hd : ∀ u ∈ xs', Holds K Z H u) (h1 : ∀ b, cnts b xs' ≤ cnts b xs + c b) (h2 : ∀ b, cntE b ev + c b ≤ 1) :
    StOk K Z (upd H a (.lst (vals xs'))) σ (ev.set i (some (.lst a xs'))) ∧ W Z H (fun x => x = a) Z (upd H a (.lst (vals xs'))) ∧ ∀ b, cntE b (ev.set i (some (.lst a xs'))) ≤ cntE b ev + c b := by
  have hh := s.hold i _ hi
  cases hh with
  | lst g1 g2 g3 =>
    have w : W Z H (fun x => x = a) Z (upd H a (.lst (vals xs'))) := W.put g1 rfl
    have soft : Soft Z H (fun x => x = a) := fun b hb => by subst hb; exact ⟨g2, .inl ⟨_, g1⟩⟩
    have hi' : i < ev.length := (List.getElem?_eq_some_iff.mp hi).1
    have key : ∀ b, cntE b (ev.set i (some (.lst a xs'))) + cnts b xs = cntE b ev + cnts b xs' := fun b => by
      have := cntE_set b (ev := ev) (some (.lst a xs')) hi
      simp only [oc, VS.T.cnt] at this
      omega
    have one_a : cntE a ev = 1 ∧ cnts a xs = 0 ∧ c a = 0 := by
      have z1 := cntE_le a hi
      have z2 := h2 a
      simp only [oc, VS.T.cnt, if_pos] at z1
      omega
    have xa : cnts a xs' = 0 := by have := h1 a; omega
    refine ⟨⟨by rw [List.length_set]; exact s.len, fun j t h => ?_, fun j t h => ?_, fun b => ?_, w.ze s.zk⟩, w, fun b => ?_⟩
    · by_cases q : i = j
      · subst q
        rw [List.getElem?_set_self hi'] at h; cases h
        exact (s.val i (.lst a xs) hi : _)
      · rw [List.getElem?_set_ne q] at h; exact s.val j t h
    · by_cases q : i = j
      · subst q
        rw [List.getElem?_set_self hi'] at h; cases h
        refine .lst upd_same g2 (.of fun u hu => (hd u hu).keep w soft fun b hb z => ?_)
        subst z
        obtain ⟨n, hn⟩ := List.getElem?_of_mem hu
        have := cnts_le b hn
        omega
      · rw [List.getElem?_set_ne q] at h
        refine (s.hold j t h).keep w soft fun b hb z => ?_
        subst z
        -- t and the list at i share nothing
        have e1 := cntE_set b (ev := ev) none hi
        have e2 := cntE_le b (ev := ev.set i none) (i := j) (o := some t) (by rw [List.getElem?_set_ne q]; exact h)
        simp only [oc, VS.T.cnt, if_pos] at e1 e2
        omega
    · have := key b; have := h1 b; have := h2 b; omega
    · have := key b; have := h1 b; omega
/-- xs.m(..), xs a slot's -/
theorem mut_tBM {m : Mu} {r : Nat} {ps : List Dn} {f : Env → R D} (hf : DnOk (.var r, f)) {Q : VK} (h : tE K XR Wx (.mut m r [] (ps.map (·.1)), evMut m r [] ps) σ H Q) :
    tBM K "list" (rMu K m) (tE K XR Wx (.var r, f)) (tLn K XR Wx ps) σ H Q := by
  obtain ⟨Z, ev, s, h⟩ := h
  refine ⟨Z, ev, s, ?_⟩
  show ER K XR Wx (.var r) Z H σ ev (f (erE ev)) _
  have hf' := hf r rfl
  simp only at hf'
  rw [hf']
  unfold evMut at h
  simp only at h
  cases hr : rd r (erE ev) with
  | none => rw [hr] at h; exact h.elim
  | some d0 =>
    rw [hr] at h
    simp only at h
    split at h
    · rename_i hl0
      intro Z1 H1 ev1 t et ee aft
      have hv := aft.var r rfl
      obtain ⟨a, xs, rfl⟩ : ∃ a xs, t = .lst a xs := by
        rw [← et] at hl0
        cases t <;> simp [VS.T.er, isLst] at hl0
        exact ⟨_, _, rfl⟩
      have hh := aft.hd
      refine ⟨?_, ?_⟩
      · cases hh with
        | lst g1 g2 g3 => exact Or.inl ⟨rfl, _, .of g1⟩
      · refine evO_tLn (k := fun Z2 H2 ev2 ts => ∃ xs2 d' out, ev2[r]? = some (some (.lst a xs2)) ∧ muL m (ers xs2) (ers ts) = some (d', out) ∧ ER K XR Wx (.mut m r [] (ps.map (·.1))) Z H σ ev (.ok out ((erE ev2).set r (some (.lst d')))) fun _ H' _ t => Q t.val H') aft.st ?_ fun Z2 H2 ev2 ts aft2 kl q => ?_
        · rw [ee]
          cases hl : evO ps (erE ev) with
          | stuck => rw [hl] at h; exact h.elim
          | exn x env' => rw [hl] at h; exact XC.after h aft.x
          | ok ds env' =>
            rw [hl] at h
            intro Z2 H2 ev2 ts e1 e2 aft2
            simp only [R.bind] at h
            cases hr2 : rd r env' with
            | none => rw [hr2] at h; exact h.elim
            | some d2 =>
              rw [hr2] at h
              simp only at h
              cases hm : muD m d2 ds with
              | none => rw [hm] at h; exact h.elim
              | some p =>
                obtain ⟨d', out⟩ := p
                rw [hm] at h
                rw [← e2] at hr2
                obtain ⟨t2, ht2, et2⟩ := rd_some hr2
                have hval := rd_same aft.st aft2.st hv ht2
                have hd2 := aft2.st.hold r t2 ht2
                have hlst : isLst d2 = true := by
                  cases d2 <;> first | rfl | (simp [muD] at hm)
                rw [← et2] at hlst
                obtain ⟨a2, xs2, rfl⟩ : ∃ a xs, t2 = .lst a xs := by
                  cases t2 <;> simp [VS.T.er, isLst] at hlst
                  exact ⟨_, _, rfl⟩
                simp only [VS.T.val, V.ref.injEq] at hval
                subst hval
                rw [← et2] at hm
                simp only [VS.T.er, muD] at hm
                cases hml : muL m (ers xs2) ds with
                | none => rw [hml] at hm; cases hm
                | some p =>
                  rw [hml] at hm
                  obtain ⟨ys, o⟩ := p
                  simp only [Option.some.injEq, Prod.mk.injEq] at hm
                  obtain ⟨rfl, rfl⟩ := hm
                  exact ⟨xs2, ys, o, ht2, by rw [e1]; exact hml, by rw [e2]; exact h⟩
        · obtain ⟨xs2, d', out, g1, g2, g3⟩ := q
          have hd2 := aft2.st.hold r _ g1
          have sum : ∀ b, cntE b ev2 + cnts b ts ≤ 1 := fun b => by
            rw [keptL_cnts b kl]
            by_cases q : H1 b = none
            · exact aft2.new b q
            · have := aft2.old b q; have := aft.st.one b; omega
          cases hd2 with
          | lst k1 k2 k3 =>
            refine ⟨Z2, a, xs2, ts, d', out, rfl, rfl, k1, g2, aft2.hd, fun xs' m1 m2 ed eo => ?_⟩
            subst ed eo
            have hx : ∀ u ∈ xs', Holds K Z2 H2 u := fun u hu => (m1 u hu).elim (k3.all u) (aft2.hd.all u)
            obtain ⟨st', w', c'⟩ := set_slot aft2.st g1 hx m2 sum
            refine g3 Z2 _ (ev2.set r (some (.lst a xs'))) (.imm .non .none) rfl (by rw [erE_set]; rfl) ⟨st', .imm .non, ?_, fun z => by (cases z), fun b hb => ?_, fun b hb => ?_, fun i z => by (cases z)⟩
            · refine (aft.x.trans aft2.x).w.trans w' fun x hx => ?_
              subst hx
              by_cases q : H x = none
              · exact .inr q
              · have h1 := (aft.x.trans aft2.x).old x q
                have h2 := cntE_le x g1
                simp only [oc, VS.T.cnt, if_pos] at h2
                exact .inl (by show 0 < cntE x ev; omega)
            · have h1 := aft2.old b (aft.w.gr' hb)
              have h2 := aft.x.old b hb
              have h3 := c' b
              rw [keptL_cnts b kl] at h3
              rw [own_imm rfl]; omega
            · have h3 := st'.one b
              rw [own_imm rfl]; omega
    · exact h.elim
end
end VS

/-! VS9: what is walked. -/
set_option linter.all false
set_option autoImplicit false
set_option maxRecDepth 100000
set_option maxHeartbeats 2000000
namespace VS
open PySem PySem.Spec PyProof.Rows L2
abbrev Inv4 := (Addr → Prop) → Hp → Sl → EnvT → Prop
section
variable (K : PySem.W.Frag) (XR : XRel) (Wx : WX')
/-- a source of items: what it yields, and that it stays -/
structure SrcOk (A : List Nat) (H0 : Hp) (items : List D) (chk : Env → Prop) (J : L2.It) (I : Inv4) : Prop where
  go : ∀ Z H σ ev i d, I Z H σ ev → StOk K Z H σ ev → chk (erE ev) → items[i]? = some d → J.go i H ∧ ∀ x H', J.yld i H x H' → W Z H (fun _ => False) Z H' ∧ ∃ c, d = .imm c ∧ RC K Z H' x c
  stop : ∀ Z H σ ev, I Z H σ ev → StOk K Z H σ ev → chk (erE ev) → J.stop items.length H
  keep : ∀ Z H σ ev Z' H' σ' ev' S, I Z H σ ev → StOk K Z H σ ev → W Z H S Z' H' → Soft Z H S → (∀ x, S x → SE ev x ∨ H0 x = none) → (∀ a, H a ≠ none → cntE a ev' ≤ cntE a ev) → (∀ j, j ∉ A → σ'[j]? = σ[j]?) → I Z' H' σ' ev'
def IRes (A : List Nat) (Z : Addr → Prop) (H : Hp) (σ : Sl) (ev : EnvT) (r : R (List D × (Env → Prop))) (k : List D → (Env → Prop) → L2.It → (Addr → Prop) → Hp → EnvT → Inv4 → Prop) : Prop := match r with
  | .ok p env' => ∀ J Z' H' ev' I, erE ev' = env' → AftX K Z H σ ev Z' H' ev' → SrcOk K A H' p.1 p.2 J I → I Z' H' σ ev' → k p.1 p.2 J Z' H' ev' I
  | .exn x env' => XC K XR Wx Z H σ ev x env'
  | .stuck => False
def tI (A : List Nat) (f : Env → R (List D × (Env → Prop))) : TI := fun σ H R => ∃ Z ev, StOk K Z H σ ev ∧ IRes K XR Wx A Z H σ ev (f (erE ev)) fun _ _ J _ H' _ _ => R J H'
end
section
variable {K : PySem.W.Frag} {XR : XRel} {Wx : WX'} {Z Z' Z1 Z2 : Addr → Prop} {H H' H1 H2 : Hp} {σ : Sl} {ev ev' ev1 ev2 eva : EnvT}
theorem PI.imp {X : Cx} {tg it : Expr} {t t' : TI} (h : PI X tg it t) (w : ∀ σ H R, t' σ H R → t σ H R) : PI X tg it t' := ⟨fun pins s σ H R I q => h.run pins s σ H R I (w _ _ _ q)⟩
theorem src_tup {A : List Nat} {H0 : Hp} {a : Addr} {vs : List V} {cs : List C} : SrcOk K A H0 (cs.map .imm) (fun _ => True) (Itt K a) fun Z H _ _ => SqT K H a vs ∧ RCs K Z H vs cs where
  go := fun Z H σ ev i d ⟨h1, h2⟩ s _ hd => by
    rw [List.getElem?_map] at hd
    cases g : cs[i]? with
    | none => rw [g] at hd; cases hd
    | some c =>
      rw [g] at hd
      simp only [Option.map_some, Option.some.injEq] at hd
      obtain ⟨v, v1, v2⟩ := h2.getC g
      refine ⟨⟨vs, v, h1, v1⟩, fun x H' y => ?_⟩
      obtain ⟨rfl, y⟩ := y
      have := y vs h1
      rw [v1] at this; cases this
      exact ⟨W.refl, c, hd.symm, v2⟩
  stop := fun Z H σ ev ⟨h1, h2⟩ _ _ => ⟨vs, h1, by rw [List.length_map, h2.length]; exact Nat.le_refl _⟩
  keep := fun Z H σ ev Z' H' σ' ev' S ⟨h1, h2⟩ s w sf _ _ _ => ⟨w.sqT sf h1, h2.keep w sf⟩
theorem src_lst {A : List Nat} {H0 : Hp} {a : Addr} {vs : List V} {cs : List C} : SrcOk K A H0 (cs.map .imm) (fun _ => True) (Itl K a) fun Z H _ _ => SqZ K Z H a vs ∧ RCs K Z H vs cs where
  go := fun Z H σ ev i d ⟨h1, h2⟩ s _ hd => by
    rw [List.getElem?_map] at hd
    cases g : cs[i]? with
    | none => rw [g] at hd; cases hd
    | some c =>
      rw [g] at hd
      simp only [Option.map_some, Option.some.injEq] at hd
      obtain ⟨v, v1, v2⟩ := h2.getC g
      refine ⟨⟨vs, v, h1.sq, v1⟩, fun x H' y => ?_⟩
      obtain ⟨rfl, y⟩ := y
      have := y vs h1.sq
      rw [v1] at this; cases this
      exact ⟨W.refl, c, hd.symm, v2⟩
  stop := fun Z H σ ev ⟨h1, h2⟩ _ _ => ⟨vs, h1.sq, by rw [List.length_map, h2.length]; exact Nat.le_refl _⟩
  keep := fun Z H σ ev Z' H' σ' ev' S ⟨h1, h2⟩ s w sf _ _ _ => ⟨w.sqZ sf h1, h2.keep w sf⟩
theorem src_own {A : List Nat} {H0 : Hp} {a : Addr} {vs : List V} {cs : List C} (h0 : H0 a ≠ none) : SrcOk K A H0 (cs.map .imm) (fun _ => True) (Itl K a) fun Z H _ ev => H a = some (.lst vs) ∧ cntE a ev = 0 ∧ RCs K Z H vs cs where
  go := fun Z H σ ev i d ⟨h1, _, h2⟩ s _ hd => by
    rw [List.getElem?_map] at hd
    cases g : cs[i]? with
    | none => rw [g] at hd; cases hd
    | some c =>
      rw [g] at hd
      simp only [Option.map_some, Option.some.injEq] at hd
      obtain ⟨v, v1, v2⟩ := h2.getC g
      refine ⟨⟨vs, v, .of h1, v1⟩, fun x H' y => ?_⟩
      obtain ⟨rfl, y⟩ := y
      have := y vs (.of h1)
      rw [v1] at this; cases this
      exact ⟨W.refl, c, hd.symm, v2⟩
  stop := fun Z H σ ev ⟨h1, _, h2⟩ _ _ => ⟨vs, .of h1, by rw [List.length_map, h2.length]; exact Nat.le_refl _⟩
  keep := fun Z H σ ev Z' H' σ' ev' S ⟨h1, hc, h2⟩ s w sf hS o _ => ⟨w.fr _ _ h1 (fun z => (hS a z).elim (fun z => by have z : 0 < cntE a ev := z; omega) h0), by have := o a (by rw [h1]; simp); omega, h2.keep w sf⟩
theorem src_var {A : List Nat} {H0 : Hp} {i : Nat} {a : Addr} {xs : List D} {cs : List C} (hA : A.contains i = false) (hc : imms xs = some cs) : SrcOk K A H0 (cs.map .imm) (fun env => rd i env = some (.lst xs)) (Itl K a) fun Z H σ _ => σ[i]? = some (some (.ref a)) := by
  have key : ∀ {Z H} {σ : Sl} {ev}, StOk K Z H σ ev → σ[i]? = some (some (.ref a)) → rd i (erE ev) = some (.lst xs) → ∃ vs, H a = some (.lst vs) ∧ RCs K Z H vs cs := by
    intro Z H σ ev s h1 h2
    obtain ⟨t, t1, t2⟩ := rd_some h2
    have := s.val i t t1
    rw [h1] at this
    cases t <;> simp [VS.T.er] at t2
    rename_i b ts
    simp only [VS.T.val, Option.some.injEq, V.ref.injEq] at this
    subst this
    have hh := s.hold i _ t1
    cases hh with
    | lst g1 g2 g3 => exact ⟨vals ts, g1, imms_ers g3 (by rw [t2]; exact hc)⟩
  refine ⟨fun Z H σ ev j d h1 s hk hd => ?_, fun Z H σ ev h1 s hk => ?_, fun Z H σ ev Z' H' σ' ev' S h1 s w _ _ _ sl => ?_⟩
  · obtain ⟨vs, g1, g2⟩ := key s h1 hk
    rw [List.getElem?_map] at hd
    cases g : cs[j]? with
    | none => rw [g] at hd; cases hd
    | some c =>
      rw [g] at hd
      simp only [Option.map_some, Option.some.injEq] at hd
      obtain ⟨v, v1, v2⟩ := g2.getC g
      refine ⟨⟨vs, v, .of g1, v1⟩, fun x H' y => ?_⟩
      obtain ⟨rfl, y⟩ := y
      have := y vs (.of g1)
      rw [v1] at this; cases this
      exact ⟨W.refl, c, hd.symm, v2⟩
  · obtain ⟨vs, g1, g2⟩ := key s h1 hk
    exact ⟨vs, .of g1, by rw [List.length_map, g2.length]; exact Nat.le_refl _⟩
  · rw [sl i (fun z => by simp [List.contains_iff_mem] at hA; exact hA z)]; exact h1
theorem src_range {A : List Nat} {H0 : Hp} {lo : Int} {n : Nat} : SrcOk K A H0 (rangeL lo n) (fun _ => True) (Itr lo n) fun _ _ _ _ => True where
  go := fun Z H σ ev i d _ s _ hd => by
    unfold rangeL at hd
    rw [List.getElem?_map] at hd
    cases g : (List.range n)[i]? with
    | none => rw [g] at hd; cases hd
    | some j =>
      rw [g] at hd
      simp only [Option.map_some, Option.some.injEq] at hd
      obtain ⟨g1, g2⟩ := List.getElem?_eq_some_iff.mp g
      rw [List.getElem_range] at g2
      subst g2
      refine ⟨show i < n by simpa using g1, fun x H' y => ?_⟩
      obtain ⟨rfl, rfl⟩ := y
      exact ⟨W.refl, _, hd.symm, .int _⟩
  stop := fun Z H σ ev _ _ _ => by
    show n ≤ _
    simp [rangeL]
  keep := fun _ _ _ _ _ _ _ _ _ _ _ _ _ _ _ _ => trivial
/-- a list or a tuple, as it comes -/
theorem pi_any {X : Cx} {tg l : Expr} {tl : TE} (hl : PE X l tl) : PI X tg l fun σ H R => tl σ H fun x H1 => (∃ a, x = .ref a ∧ (∃ xs, SqL X.K H1 a xs) ∧ R (Itl X.K a) H1) ∨ ∃ a, x = .ref a ∧ (∃ xs, SqT X.K H1 a xs) ∧ R (Itt X.K a) H1 := by
  refine ⟨fun pins s σ H R I h => thn (hl.run pins s σ H _ I h) fun v s1 q0 => ?_⟩
  obtain ⟨x, H1, I1, r1, q1⟩ := q0
  have frs : ∀ b ∈ [s1.heap.objs.size], FpOk X pins H1 b := fun b hb => by
    obtain rfl : b = s1.heap.objs.size := by simpa using hb
    exact I1.fpOk (Nat.le_refl _) (I1.hok.fresh (Nat.le_refl _))
  rcases q1 with ⟨a, rfl, ⟨xs, hq⟩, q⟩ | ⟨a, rfl, ⟨xs, hq⟩, q⟩ <;> cases r1
  · obtain ⟨its, rv, p, hz⟩ := I1.list hq
    refine wpAny_pyIter_list p.isList ⟨s1.heap.objs.size, [s1.heap.objs.size], _, _, H1, rfl, I1.kept (t' := s1.toks) (fun b o e => Heap.get?_push_of_some _ e), turn_list a _, ⟨_, Heap.get?_push_size _ rfl, rfl, rfl⟩, frs, q⟩
  · obtain ⟨its, rv, p, hz⟩ := I1.tuple hq
    refine wpAny_pyIter_tuple (show s1.heap.IsTuple a its.toArray from p) ⟨s1.heap.objs.size, [s1.heap.objs.size], _, _, H1, rfl, I1.kept (t' := s1.toks) (fun b o e => Heap.get?_push_of_some _ e), turn_tuple a _, ⟨_, Heap.get?_push_size _ rfl, rfl, rfl⟩, frs, q⟩
theorem pi_seq {X : Cx} {A : List Nat} {tg l : Expr} {p : Dn} (hl : PE X l (tE X.K XR Wx p)) : PI X tg l (tI X.K XR Wx A (itSeq A p)) := by
  refine PI.imp (pi_any hl) fun σ H R h => ?_
  obtain ⟨Z, ev, s, h⟩ := h
  refine ⟨Z, ev, s, ?_⟩
  unfold itSeq at h
  cases hf : p.2 (erE ev) with
  | stuck => rw [hf] at h; exact h.elim
  | exn x env' => rw [hf] at h; exact h
  | ok d env1 =>
    rw [hf] at h
    intro Z1 H1 ev1 t et ee a
    simp only [VS.R.bind] at h
    split at h
    · obtain ⟨v, rfl⟩ := er_imm et
      obtain ⟨b, vs, b1, b2, b3⟩ := rc_tup (holds_imm a.hd rfl)
      exact .inr ⟨b, b1, ⟨vs, b2⟩, h _ _ _ _ _ ee a.x src_tup ⟨b2, b3⟩⟩
    · obtain ⟨v, rfl⟩ := er_imm et
      obtain ⟨b, vs, b1, b2, b3⟩ := rc_lst (holds_imm a.hd rfl)
      exact .inl ⟨b, b1, ⟨vs, b2.sq⟩, h _ _ _ _ _ ee a.x src_lst ⟨b2, b3⟩⟩
    · split at h
      · rename_i xs cs hcs
        obtain ⟨b, ts, rfl⟩ : ∃ b ts, t = .lst b ts := by
          cases t <;> simp [VS.T.er] at et
          exact ⟨_, _, rfl⟩
        simp only [VS.T.er, D.lst.injEq] at et
        have hh := a.hd
        cases hh with
        | lst g1 g2 g3 =>
          have r := imms_ers g3 (by rw [et]; exact hcs)
          split at h
          · rename_i i hv
            split at h
            · exact h.elim
            · rename_i hA
              refine .inl ⟨b, rfl, ⟨_, .of g1⟩, h _ _ _ _ _ ee a.x (src_var (a := b) (by simpa using hA) hcs) ?_⟩
              exact a.st.val i _ (a.var i hv)
          · split at h
            · exact h.elim
            · rename_i hb
              have ho : own p.1 (.lst b ts) b = 1 + cnts b ts := by
                simp [own, VS.T.cnt] at hb ⊢
                simp [hb]
              refine .inl ⟨b, rfl, ⟨_, .of g1⟩, h _ _ _ _ _ ee a.x (src_own (by rw [g1]; simp)) ⟨g1, ?_, r⟩⟩
              by_cases q : H b = none
              · have := a.new b q; omega
              · have := a.old b q; have := s.one b; omega
      · exact h.elim
    · exact h.elim
theorem IRes.mono {A : List Nat} {r : VS.R (List D × (Env → Prop))} {k k' : List D → (Env → Prop) → L2.It → (Addr → Prop) → Hp → EnvT → Inv4 → Prop} (h : IRes K XR Wx A Z H σ ev r k)
    (m : ∀ xs c J Z' H' ev' I, r = .ok (xs, c) (erE ev') → AftX K Z H σ ev Z' H' ev' → SrcOk K A H' xs c J I → I Z' H' σ ev' → k xs c J Z' H' ev' I → k' xs c J Z' H' ev' I) : IRes K XR Wx A Z H σ ev r k' := by
  cases r with
  | ok p env' => exact fun J Z' H' ev' I e a so i => m p.1 p.2 J Z' H' ev' I (by rw [e]) a so i (h J Z' H' ev' I e a so i)
  | exn x env' => exact h
  | stuck => exact h
theorem ers_ints1 {ts : List VS.T} {n : Int} (h : HoldsL K Z H ts) (e : ers ts = [.imm (.int n)]) : vals ts = [.int n] := by
  obtain ⟨t, rfl, et⟩ := ers_one e
  simp [rc_int (holds_imm (h.all t (by simp)) et)]
theorem ers_ints2 {ts : List VS.T} {n m : Int} (h : HoldsL K Z H ts) (e : ers ts = [.imm (.int n), .imm (.int m)]) : vals ts = [.int n, .int m] := by
  obtain ⟨t, t', rfl, et, et'⟩ := ers_two e
  simp [rc_int (holds_imm (h.all t (by simp)) et), rc_int (holds_imm (h.all t' (by simp)) et')]
/-- range(..) -/
theorem range_tLn {A : List Nat} {ps : List Dn} (hp : ∀ p ∈ ps, DnOk p) {R : L2.It → Hp → Prop} (h : tI K XR Wx A (itRange ps) σ H R) :
    tLn K XR Wx ps σ H fun vs H1 => (∃ n : Int, vs = [.int n] ∧ -(2 ^ 62) ≤ n ∧ n < 2 ^ 62 ∧ R (Itr 0 n.toNat) H1) ∨ ∃ a b : Int, vs = [.int a, .int b] ∧ (-(2 ^ 62) ≤ a ∧ a < 2 ^ 62 ∧ -(2 ^ 62) ≤ b ∧ b < 2 ^ 62) ∧ R (Itr a (b - a).toNat) H1 := by
  obtain ⟨Z, ev, s, h⟩ := h
  refine evL_tLn (k := fun Z' H' ev' ts => (∃ n : Int, vals ts = [.int n] ∧ -(2 ^ 62) ≤ n ∧ n < 2 ^ 62 ∧ R (Itr 0 n.toNat) H') ∨ ∃ a b : Int, vals ts = [.int a, .int b] ∧ (-(2 ^ 62) ≤ a ∧ a < 2 ^ 62 ∧ -(2 ^ 62) ≤ b ∧ b < 2 ^ 62) ∧ R (Itr a (b - a).toNat) H') s hp ?_ fun _ _ _ _ q => q
  unfold itRange at h
  cases hl : evL ps (erE ev) with
  | stuck => rw [hl] at h; exact h.elim
  | exn x env' => rw [hl] at h; exact h
  | ok ds env' =>
    rw [hl] at h
    intro Z1 H1 ev1 ts e1 e2 aft
    simp only [VS.R.bind] at h
    split at h
    · rename_i n
      split at h
      · rename_i hz
        simp only [okR, decide_eq_true_eq] at hz
        exact .inl ⟨n, ers_ints1 aft.hd e1, hz.1, hz.2, h _ Z1 H1 ev1 _ e2 aft.x src_range trivial⟩
      · exact h.elim
    · rename_i a b
      split at h
      · rename_i hz
        simp only [Bool.and_eq_true, okR, decide_eq_true_eq] at hz
        exact .inr ⟨a, b, ers_ints2 aft.hd e1, ⟨hz.1.1, hz.1.2, hz.2.1, hz.2.2⟩, h _ Z1 H1 ev1 _ e2 aft.x src_range trivial⟩
      · exact h.elim
    · exact h.elim
/-! ### targets -/
/-- a stored thing -/
structure AftS (K : PySem.W.Frag) (Z : Addr → Prop) (H : Hp) (σ : Sl) (ev : EnvT) (A : List Nat) (Z' : Addr → Prop) (H' : Hp) (σ' : Sl) (ev' : EnvT) : Prop where
  st : StOk K Z' H' σ' ev'
  w : W Z H (SE ev) Z' H'
  old : ∀ a, H a ≠ none → cntE a ev' ≤ cntE a ev
  sl : ∀ j, j ∉ A → σ'[j]? = σ[j]?
theorem StOk.store (s : StOk K Z H σ ev) {i : Nat} {t : VS.T} (hi : i < ev.length) (ht : Holds K Z H t) (hc : ∀ a, cntE a ev + t.cnt a ≤ 1) : StOk K Z H (σ.set i (some t.val)) (ev.set i (some t)) := by
  obtain ⟨o, ho⟩ : ∃ o, ev[i]? = some o := ⟨ev[i], List.getElem?_eq_getElem hi⟩
  refine ⟨by rw [List.length_set, List.length_set]; exact s.len, fun j u h => ?_, fun j u h => ?_, fun a => ?_, s.zk⟩
  · by_cases q : i = j
    · subst q
      rw [List.getElem?_set_self hi] at h; cases h
      rw [List.getElem?_set_self (by rw [s.len]; exact hi)]
    · rw [List.getElem?_set_ne q] at h ⊢; exact s.val j u h
  · by_cases q : i = j
    · subst q
      rw [List.getElem?_set_self hi] at h; cases h
      exact ht
    · rw [List.getElem?_set_ne q] at h; exact s.hold j u h
  · have := cntE_set a (ev := ev) (some t) ho
    have := hc a
    simp only [oc] at *
    omega
theorem cntE_store {i : Nat} {t : VS.T} (hi : i < ev.length) (a : Addr) : cntE a (ev.set i (some t)) ≤ cntE a ev + t.cnt a := by
  obtain ⟨o, ho⟩ : ∃ o, ev[i]? = some o := ⟨ev[i], List.getElem?_eq_getElem hi⟩
  have := cntE_set a (ev := ev) (some t) ho
  simp only [oc] at this
  omega
/-- contents stored at a target -/
def GOk (K : PySem.W.Frag) (tg : Tg) (g : TG) : Prop := ∀ {Z : Addr → Prop} {H : Hp} {σ : Sl} {ev : EnvT} {v : V} {c : C} {env' : Env}, StOk K Z H σ ev → RC K Z H v c → bindTg tg (.imm c) (erE ev) = some env' → ∀ {Q : L2.St → Hp → Prop},
  (∀ σ' ev', erE ev' = env' → StOk K Z H σ' ev' → (∀ a, cntE a ev' ≤ cntE a ev) → (∀ j, j ∉ tgSlots tg → σ'[j]? = σ[j]?) → σ'.length = σ.length → Q σ' H) → g v σ H Q
def GsOk (K : PySem.W.Frag) (tgs : List Tg) (g : TGs) : Prop := ∀ {Z : Addr → Prop} {H : Hp} {σ : Sl} {ev : EnvT} {vs : List V} {cs : List C} {env' : Env}, StOk K Z H σ ev → RCs K Z H vs cs → bindTgs tgs cs (erE ev) = some env' → ∀ {Q : L2.St → Hp → Prop},
  (∀ σ' ev', erE ev' = env' → StOk K Z H σ' ev' → (∀ a, cntE a ev' ≤ cntE a ev) → (∀ j, j ∉ tgsSlots tgs → σ'[j]? = σ[j]?) → σ'.length = σ.length → Q σ' H) → g vs σ H Q
theorem gok_name {i : Nat} : GOk K (.v i) (gName i) := by
  intro Z H σ ev v c env' s r hb Q q
  simp only [bindTg] at hb
  split at hb
  · rename_i hi
    cases hb
    rw [erE_length] at hi
    refine q _ (ev.set i (some (.imm v c))) (by rw [erE_set]; rfl) (s.store hi (.imm r) fun a => by have := s.one a; simp [VS.T.cnt]; omega) (fun a => by have := cntE_store (t := .imm v c) hi a; simpa [VS.T.cnt] using this) (fun j hj => ?_) (by rw [List.length_set])
    rw [List.getElem?_set_ne (fun z => hj (by simp [tgSlots, z]))]
  · cases hb
theorem gsok_nil : GsOk K [] gNil := by
  intro Z H σ ev vs cs env' s r hb Q q
  cases r with
  | nil =>
    simp only [bindTgs, Option.some.injEq] at hb
    exact ⟨rfl, q σ ev hb s (fun _ => Nat.le_refl _) (fun _ _ => rfl) rfl⟩
  | cons _ _ => simp [bindTgs] at hb
theorem gsok_cons {t : Tg} {ts : List Tg} {g : TG} {gs : TGs} (h1 : GOk K t g) (h2 : GsOk K ts gs) : GsOk K (t :: ts) (gCons g gs) := by
  intro Z H σ ev vs cs env' s r hb Q q
  cases r with
  | nil => simp [bindTgs] at hb
  | cons r1 r2 =>
    simp only [bindTgs] at hb
    split at hb
    · rename_i env1 e1
      refine ⟨_, _, rfl, h1 s r1 e1 fun σ1 ev1 a1 a2 a3 a4 a5 => h2 a2 r2 (by rw [a1]; exact hb) fun σ2 ev2 b1 b2 b3 b4 b5 => q σ2 ev2 b1 b2 (fun a => Nat.le_trans (b3 a) (a3 a)) (fun j hj => ?_) (b5.trans a5)⟩
      simp only [tgsSlots, List.mem_append, not_or] at hj
      rw [b4 j hj.2, a4 j hj.1]
    · cases hb
theorem bindTgs_len : ∀ {ts : List Tg} {cs : List C} {env env' : Env}, bindTgs ts cs env = some env' → cs.length = ts.length
  | [], [], _, _, _ => rfl
  | [], _ :: _, _, _, h => by simp [bindTgs] at h
  | _ :: _, [], _, _, h => by simp [bindTgs] at h
  | t :: ts, c :: cs, env, env', h => by
    simp only [bindTgs] at h
    split at h
    · simp [bindTgs_len h]
    · cases h
theorem gok_tup {ts : List Tg} {gs : TGs} (h : GsOk K ts gs) : GOk K (.t ts) (gTup K ts.length gs) := by
  intro Z H σ ev v c env' s r hb Q q
  cases c <;> simp only [bindTg] at hb <;> try cases hb
  obtain ⟨a, vs, a1, a2, a3⟩ := rc_tup r
  refine ⟨a, vs, a1, a2, by rw [a3.length, bindTgs_len hb], h s a3 hb fun σ' ev' b1 b2 b3 b4 b5 => q σ' ev' b1 b2 b3 (fun j hj => b4 j (by simpa [tgSlots] using hj)) b5⟩
end
end VS

/-! VS10: comprehensions. -/
set_option linter.all false
set_option autoImplicit false
set_option maxRecDepth 100000
set_option maxHeartbeats 2000000
namespace VS
open PySem PySem.Spec PyProof.Rows L2
theorem compGo_noexn {one : D → Env → R (Option D)} {chk : Env → Prop} {x : Ex} {env' : Env} : ∀ (xs acc : List D) (env : Env), compGo one chk xs acc env ≠ .exn x env'
  | [], acc, env => by unfold compGo; split <;> simp
  | y :: ys, acc, env => by
    unfold compGo
    split
    · split
      · split
        · exact compGo_noexn ys _ _
        · simp
      · exact compGo_noexn ys _ _
      · simp
    · simp
/-! slots wiped and put back -/
def wipeT (ev : EnvT) : List Nat → EnvT
  | [] => ev
  | v :: vs => (wipeT ev vs).set v none
def backT (ev0 ev : EnvT) : List Nat → EnvT
  | [] => ev
  | v :: vs => (backT ev0 ev vs).set v (ev0[v]?.getD none)
theorem wipeT_er (ev : EnvT) : ∀ vs, erE (wipeT ev vs) = wipeE (erE ev) vs
  | [] => rfl
  | v :: vs => by rw [wipeT, wipeE, erE_set, wipeT_er ev vs]; rfl
theorem backT_er (ev0 ev : EnvT) : ∀ vs, erE (backT ev0 ev vs) = backE (erE ev0) (erE ev) vs
  | [] => rfl
  | v :: vs => by
    rw [backT, backE, erE_set, backT_er ev0 ev vs, erE_get]
    cases ev0[v]? with
    | none => rfl
    | some o => rfl
theorem wipeT_length (ev : EnvT) : ∀ vs, (wipeT ev vs).length = ev.length
  | [] => rfl
  | v :: vs => by rw [wipeT, List.length_set, wipeT_length ev vs]
theorem backT_length (ev0 ev : EnvT) : ∀ vs, (backT ev0 ev vs).length = ev.length
  | [] => rfl
  | v :: vs => by rw [backT, List.length_set, backT_length ev0 ev vs]
theorem wipeT_get {ev : EnvT} {i : Nat} {t : VS.T} : ∀ {vs : List Nat}, (wipeT ev vs)[i]? = some (some t) → ev[i]? = some (some t) ∧ i ∉ vs
  | [], h => ⟨h, by simp⟩
  | v :: vs, h => by
    rw [wipeT] at h
    by_cases q : v = i
    · subst q
      by_cases z : v < (wipeT ev vs).length
      · rw [List.getElem?_set_self z] at h; cases h
      · rw [List.getElem?_eq_none (by simpa using z)] at h; cases h
    · rw [List.getElem?_set_ne q] at h
      obtain ⟨h1, h2⟩ := wipeT_get h
      exact ⟨h1, by simp only [List.mem_cons, not_or]; exact ⟨Ne.symm q, h2⟩⟩
theorem wipeT_out {ev : EnvT} {i : Nat} : ∀ {vs : List Nat}, i ∉ vs → (wipeT ev vs)[i]? = ev[i]?
  | [], _ => rfl
  | v :: vs, h => by
    simp only [List.mem_cons, not_or] at h
    rw [wipeT, List.getElem?_set_ne (Ne.symm h.1), wipeT_out h.2]
theorem backT_out {ev0 ev : EnvT} {i : Nat} : ∀ {vs : List Nat}, i ∉ vs → (backT ev0 ev vs)[i]? = ev[i]?
  | [], _ => rfl
  | v :: vs, h => by
    simp only [List.mem_cons, not_or] at h
    rw [backT, List.getElem?_set_ne (Ne.symm h.1), backT_out h.2]
theorem backT_in {ev0 ev : EnvT} {i : Nat} (hl : ev0.length = ev.length) : ∀ {vs : List Nat}, i ∈ vs → (backT ev0 ev vs)[i]? = ev0[i]?
  | [], h => by simp at h
  | v :: vs, h => by
    rw [backT]
    by_cases q : v = i
    · subst q
      by_cases z : v < ev0.length
      · rw [List.getElem?_set_self (by rw [backT_length]; omega)]
        rw [List.getElem?_eq_getElem z]; rfl
      · rw [List.getElem?_eq_none (by rw [List.length_set, backT_length]; omega), List.getElem?_eq_none (by omega)]
    · rw [List.getElem?_set_ne q]
      exact backT_in hl ((List.mem_cons.mp h).resolve_left (Ne.symm q))
theorem wipeT_cnt (a : Addr) (ev : EnvT) : ∀ vs, cntE a (wipeT ev vs) ≤ cntE a ev
  | [] => Nat.le_refl _
  | v :: vs => by
    rw [wipeT]
    have ih := wipeT_cnt a ev vs
    by_cases z : v < (wipeT ev vs).length
    · have := cntE_set a (ev := wipeT ev vs) none (List.getElem?_eq_getElem z)
      simp only [oc] at this
      omega
    · rw [List.set_eq_of_length_le (by omega)]; exact ih
theorem backT_cnt (a : Addr) {ev0 ev : EnvT} (hl : ev0.length = ev.length) : ∀ vs, cntE a (backT ev0 ev vs) + cntE a (wipeT ev0 vs) ≤ cntE a ev + cntE a ev0
  | [] => Nat.le_refl _
  | v :: vs => by
    rw [backT, wipeT]
    have ih := backT_cnt a hl vs
    by_cases z : v < ev0.length
    · have z1 : v < (backT ev0 ev vs).length := by rw [backT_length]; omega
      have z2 : v < (wipeT ev0 vs).length := by rw [wipeT_length]; exact z
      have k1 := cntE_set a (ev := backT ev0 ev vs) (ev0[v]?.getD none) (List.getElem?_eq_getElem z1)
      have k2 := cntE_set a (ev := wipeT ev0 vs) none (List.getElem?_eq_getElem z2)
      have e0 : ev0[v]?.getD none = ev0[v] := by rw [List.getElem?_eq_getElem z]; rfl
      rw [e0] at k1 ⊢
      have hn : oc a (none : Option VS.T) = 0 := rfl
      rw [hn] at k2
      have hor : (backT ev0 ev vs)[v] = ev0[v] ∨ (wipeT ev0 vs)[v] = ev0[v] := by
        by_cases q : v ∈ vs
        · left
          have := backT_in hl q
          rw [List.getElem?_eq_getElem z1, List.getElem?_eq_getElem z] at this
          exact Option.some.inj this
        · right
          have := wipeT_out (ev := ev0) q
          rw [List.getElem?_eq_getElem z2, List.getElem?_eq_getElem z] at this
          exact Option.some.inj this
      rcases hor with q | q <;> have q' := congrArg (oc a) q <;> omega
    · rw [List.set_eq_of_length_le (by rw [backT_length]; omega), List.set_eq_of_length_le (by rw [wipeT_length]; omega)]
      exact ih
theorem wipe_in {σ : Sl} {i : Nat} : ∀ {vs : List Nat}, i ∈ vs → i < σ.length → (wipe σ vs)[i]? = some none
  | [], h, _ => by simp at h
  | v :: vs, h, hl => by
    unfold wipe
    by_cases q : v = i
    · subst q
      rw [List.getElem?_set_self (by rw [wipe_length]; exact hl)]
    · rw [List.getElem?_set_ne q]
      exact wipe_in ((List.mem_cons.mp h).resolve_left (Ne.symm q)) hl
theorem wipe_same {σ σ2 : Sl} {vs : List Nat} (hl : σ2.length = σ.length) (h : ∀ j, j ∉ vs → σ2[j]? = (wipe σ vs)[j]?) : wipe σ2 vs = wipe σ vs := by
  refine List.ext_getElem? fun i => ?_
  by_cases q : i ∈ vs
  · by_cases z : i < σ.length
    · rw [wipe_in q z, wipe_in q (by omega)]
    · rw [List.getElem?_eq_none (by rw [wipe_length]; omega), List.getElem?_eq_none (by rw [wipe_length]; omega)]
  · rw [wipe_out q, h i q]
section
variable {K : PySem.W.Frag} {XR : XRel} {Wx : WX'} {Z Z' Z1 Z2 : Addr → Prop} {H H' H1 H2 : Hp} {σ : Sl} {ev ev' ev1 ev2 eva : EnvT}
theorem StOk.wipe (s : StOk K Z H σ ev) (vs : List Nat) : StOk K Z H (L2.wipe σ vs) (wipeT ev vs) :=
  ⟨by rw [wipe_length, wipeT_length]; exact s.len, fun i t h => by
    obtain ⟨h1, h2⟩ := wipeT_get h
    rw [wipe_out h2]; exact s.val i t h1, fun i t h => s.hold i t (wipeT_get h).1, fun a => Nat.le_trans (wipeT_cnt a ev vs) (s.one a), s.zk⟩
/-- within a comprehension: the block's slots, the new list so far -/
structure CInv (K : PySem.W.Frag) (own : List Nat) (Z1 : Addr → Prop) (H1 : Hp) (σ : Sl) (ev1 : EnvT) (Dp : Addr) (I : Inv4) (Z : Addr → Prop) (H : Hp) (ev : EnvT) (acc : List VS.T) : Prop where
  st : StOk K Z H (L2.wipe σ own) ev
  src : I Z H (L2.wipe σ own) ev
  hD : H Dp = some (.lst (vals acc))
  nZ : ¬ Z Dp
  hd : HoldsL K Z H acc
  cD : cntE Dp ev = 0 ∧ cnts Dp acc = 0
  w : W Z1 H1 (SE (wipeT ev1 own)) Z H
  old : ∀ a, H1 a ≠ none → cntE a ev + cnts a acc ≤ cntE a (wipeT ev1 own)
  new : ∀ a, H1 a = none → cntE a ev + cnts a acc ≤ 1
  nD : H1 Dp = none
  one1 : ∀ a, cntE a (wipeT ev1 own) ≤ 1
theorem CInv.sum {own : List Nat} {Dp : Addr} {I : Inv4} {acc : List VS.T} (c : CInv K own Z1 H1 σ ev1 Dp I Z H ev acc) (a : Addr) : cntE a ev + cnts a acc ≤ 1 := by
  by_cases q : H1 a = none
  · exact c.new a q
  · have := c.old a q; have := c.one1 a; omega
theorem CInv.se {own : List Nat} {Dp : Addr} {I : Inv4} {acc : List VS.T} (c : CInv K own Z1 H1 σ ev1 Dp I Z H ev acc) {x : Addr} (h : SE ev x) : SE (wipeT ev1 own) x ∨ H1 x = none := by
  by_cases q : H1 x = none
  · exact .inr q
  · have := c.old x q
    have h : 0 < cntE x ev := h
    exact .inl (by show 0 < cntE x (wipeT ev1 own); omega)
/-- an expression's end within the block; m is what is still held -/
theorem CInv.step {own : List Nat} {Dp : Addr} {I : Inv4} {acc : List VS.T} {items : List D} {chk : Env → Prop} {J : L2.It} {σ2 : Sl} {m : Addr → Nat} (c : CInv K own Z1 H1 σ ev1 Dp I Z H ev acc) (so : SrcOk K own H1 items chk J I)
    (st2 : StOk K Z2 H2 σ2 ev2) (w2 : W Z H (SE ev) Z2 H2) (hs : ∀ j, j ∉ own → σ2[j]? = (L2.wipe σ own)[j]?) (hl : σ2.length = σ.length)
    (old : ∀ a, H a ≠ none → cntE a ev2 + m a ≤ cntE a ev) (new : ∀ a, H a = none → cntE a ev2 + m a ≤ 1) :
    CInv K own Z1 H1 σ ev1 Dp I Z2 H2 (wipeT ev2 own) acc ∧ (∀ a, H1 a ≠ none → cntE a (wipeT ev2 own) + cnts a acc + m a ≤ cntE a (wipeT ev1 own)) ∧ (∀ a, H1 a = none → cntE a (wipeT ev2 own) + cnts a acc + m a ≤ 1) ∧ m Dp = 0 := by
  have dD : cntE Dp ev2 + m Dp = 0 := by have := old Dp (by rw [c.hD]; simp); have := c.cD.1; omega
  have wq : L2.wipe σ2 own = L2.wipe σ own := wipe_same hl hs
  have stw := st2.wipe own
  rw [wq] at stw
  have wc := fun a => wipeT_cnt a ev2 own
  have o1 : ∀ a, H1 a ≠ none → cntE a (wipeT ev2 own) + cnts a acc + m a ≤ cntE a (wipeT ev1 own) := fun a ha => by
    have := c.old a ha
    have := old a (c.w.gr' ha)
    have := wc a
    omega
  have n1 : ∀ a, H1 a = none → cntE a (wipeT ev2 own) + cnts a acc + m a ≤ 1 := fun a ha => by
    have h1 := c.new a ha
    have h3 := wc a
    by_cases q : H a = none
    · have h2 := new a q
      have : cnts a acc = 0 := by
        by_cases z : 0 < cnts a acc
        · exact absurd q (c.hd.own z).2.some
        · omega
      omega
    · have h2 := old a q; omega
  refine ⟨⟨stw, ?_, ?_, notZ w2 c.hD c.nZ fun z => ?_, ?_, ⟨?_, c.cD.2⟩, ?_, fun a ha => ?_, fun a ha => ?_, c.nD, c.one1⟩, o1, n1, by omega⟩
  · refine so.keep _ _ _ _ _ _ _ _ _ c.src c.st w2 c.st.soft (fun x hx => .inl hx) (fun a ha => ?_) fun _ _ => rfl
    have := old a ha; have := wc a; omega
  · exact w2.fr _ _ c.hD fun z => by have z : 0 < cntE Dp ev := z; have := c.cD.1; omega
  · have z : 0 < cntE Dp ev := z; have := c.cD.1; omega
  · refine c.hd.keep w2 c.st.soft fun a ha z => ?_
    have z : 0 < cntE a ev := z
    have := c.sum a
    omega
  · have := wc Dp; omega
  · exact c.w.trans w2 fun x hx => c.se hx
  · have := o1 a ha; omega
  · have := n1 a ha; omega
/-- an item is laid behind the list -/
theorem CInv.push {own : List Nat} {Dp : Addr} {I : Inv4} {acc : List VS.T} {items : List D} {chk : Env → Prop} {J : L2.It} {t : VS.T} (c : CInv K own Z1 H1 σ ev1 Dp I Z H ev acc) (so : SrcOk K own H1 items chk J I) (ht : Holds K Z H t)
    (o1 : ∀ a, H1 a ≠ none → cntE a ev + cnts a acc + t.cnt a ≤ cntE a (wipeT ev1 own)) (n1 : ∀ a, H1 a = none → cntE a ev + cnts a acc + t.cnt a ≤ 1) (d1 : t.cnt Dp = 0) :
    CInv K own Z1 H1 σ ev1 Dp I Z (upd H Dp (.lst (vals acc ++ [t.val]))) ev (acc ++ [t]) := by
  have softD : Soft Z H (fun x => x = Dp) := fun b hb => by subst hb; exact ⟨c.nZ, .inl ⟨_, c.hD⟩⟩
  have w3 : W Z H (fun x => x = Dp) Z (upd H Dp (.lst (vals acc ++ [t.val]))) := W.put c.hD rfl
  refine ⟨c.st.kept w3 softD fun a ha z => ?_, ?_, ?_, c.nZ, ?_, ⟨c.cD.1, ?_⟩, ?_, fun a ha => ?_, fun a ha => ?_, c.nD, c.one1⟩
  · subst z; have := c.cD.1; omega
  · exact so.keep _ _ _ _ _ _ _ _ _ c.src c.st w3 softD (fun x hx => .inr (by rw [hx]; exact c.nD)) (fun a _ => Nat.le_refl _) fun _ _ => rfl
  · rw [upd_same]; simp [vals]
  · refine (c.hd.append (.cons ht .nil)).keep w3 softD fun a ha z => ?_
    subst z
    rw [cnts_append] at ha
    have := c.cD.2
    simp [cnts] at ha
    omega
  · rw [cnts_append]; have := c.cD.2; simp [cnts]; omega
  · refine c.w.trans w3 fun x hx => .inr (by rw [hx]; exact c.nD)
  · rw [cnts_append]; have := o1 a ha; simp [cnts]; omega
  · rw [cnts_append]; have := n1 a ha; simp [cnts]; omega
/-- the rest of a comprehension, by the evaluator -/
def CRes (K : PySem.W.Frag) (own : List Nat) (Z1 : Addr → Prop) (H1 : Hp) (σ : Sl) (ev1 : EnvT) (Dp : Addr) (I : Inv4) (r : VS.R (List D)) (Qd : Hp → Prop) : Prop := match r with
  | .ok ds env' => ∀ Z H ev acc, ers acc = ds → erE ev = env' → CInv K own Z1 H1 σ ev1 Dp I Z H ev acc → Qd H
  | _ => False
/-- what still has to come -/
def CN (K : PySem.W.Frag) (own : List Nat) (Z1 : Addr → Prop) (H1 : Hp) (σ : Sl) (ev1 : EnvT) (Dp : Addr) (I : Inv4) (one : D → Env → VS.R (Option D)) (chk : Env → Prop) (xs : List D) (Qd : Hp → Prop) : Hp → Prop := fun H' => ∃ Z ev acc, CInv K own Z1 H1 σ ev1 Dp I Z H' ev acc ∧ CRes K own Z1 H1 σ ev1 Dp I (compGo one chk xs (ers acc) (erE ev)) Qd
abbrev wF : WX' := fun _ _ _ _ => False
def tCond (K : PySem.W.Frag) (XR : XRel) : Option Dn → TT
  | none => tYes
  | some c => tB (tE K XR wF c)
theorem cntE_sub (x : Addr) : ∀ (u v : EnvT), u.length = v.length → (∀ (j : Nat) (y : VS.T), u[j]? = some (some y) → v[j]? = some (some y)) → cntE x u ≤ cntE x v
  | [], v, _, _ => by simp [cntE]
  | o :: us, [], hl, _ => by simp at hl
  | o :: us, o' :: vs, hl, hh => by
    have ih := cntE_sub x us vs (by simpa using hl) fun j y hj => by simpa using hh (j + 1) y (by simpa using hj)
    rw [cntE_cons, cntE_cons]
    cases o with
    | none => simp [oc]; omega
    | some y =>
      have := hh 0 y rfl
      simp at this
      subst this
      omega
theorem wiped_apart {i : Nat} {t : VS.T} {vs : List Nat} (one : ∀ a, cntE a ev ≤ 1) (hi : i ∈ vs) (ht : ev[i]? = some (some t)) {x : Addr} (hx : 0 < t.cnt x) : ¬ SE (wipeT ev vs) x := fun z => by
  have z : 0 < cntE x (wipeT ev vs) := z
  have hi' : i < (wipeT ev vs).length := by rw [wipeT_length]; exact (List.getElem?_eq_some_iff.mp ht).1
  have w0 : (wipeT ev vs)[i]? = some none := by
    cases q : (wipeT ev vs)[i]? with
    | none => rw [List.getElem?_eq_none_iff] at q; omega
    | some o =>
      cases o with
      | none => rfl
      | some u => exact absurd hi (wipeT_get q).2
  have k2 := cntE_set x (ev := wipeT ev vs) (some t) w0
  have k3 : cntE x ((wipeT ev vs).set i (some t)) ≤ cntE x ev := by
    refine cntE_sub x _ _ (by rw [List.length_set, wipeT_length]) fun j y hj => ?_
    by_cases q : i = j
    · subst q; rw [List.getElem?_set_self hi'] at hj; cases hj; exact ht
    · rw [List.getElem?_set_ne q] at hj; exact (wipeT_get hj).1
  have k4 := one x
  simp only [oc] at k2
  omega
/-- the end of a comprehension -/
theorem comp_end {e : E} {ow : List Nat} {I : Inv4} {acc : List VS.T} {D' : Addr} (s : StOk K Z H σ ev) (a : AftX K Z H σ ev Z1 H1 ev1) (c : CInv K ow Z1 H1 σ ev1 D' I Z2 H2 ev2 acc) (ht : triv e = false) (hv : isVar e = none) : Aft K e Z H σ ev Z2 H2 (backT ev1 ev2 ow) (.lst D' acc) := by
  have hlen : ev1.length = ev2.length := by
    have := c.st.len
    rw [wipe_length] at this
    rw [← this, ← a.st.len]
  have wsoft : Soft Z1 H1 (SE (wipeT ev1 ow)) := (a.st.wipe ow).soft
  have bc := fun x => backT_cnt x hlen ow
  have wc1 := fun x => wipeT_cnt x ev1 ow
  have old2 : ∀ x, H x ≠ none → cntE x (backT ev1 ev2 ow) + cnts x acc ≤ cntE x ev := fun x hx => by
    have h2 := c.old x (a.w.gr' hx)
    have h3 := a.old x hx
    have h4 := bc x
    have h5 := wc1 x
    omega
  have dead1 : ∀ x, H1 x = none → cntE x ev1 = 0 := fun x hx => by
    by_cases z : 0 < cntE x ev1
    · exact absurd hx (a.st.soft x z).2.some
    · omega
  have new2 : ∀ x, cntE x (backT ev1 ev2 ow) + cnts x acc ≤ 1 := fun x => by
    have h4 := bc x
    have h5 := wc1 x
    by_cases q : H1 x = none
    · have h2 := c.new x q
      have h6 := dead1 x q
      omega
    · have h2 := c.old x q
      have h6 := a.st.one x
      omega
  have hDnone : H D' = none := a.w.gr D' c.nD
  have d0 : cntE D' (backT ev1 ev2 ow) + cnts D' acc = 0 := by
    have h4 := bc D'
    have h6 := dead1 D' c.nD
    have := c.cD
    omega
  have hcnt : ∀ x, own e (.lst D' acc) x ≤ (if x = D' then 1 else 0) + cnts x acc := fun x => own_le e _ x
  refine ⟨⟨?_, fun i t hh => ?_, fun i t hh => ?_, fun x => ?_, c.st.zk⟩, .lst c.hD c.nZ c.hd, ?_, fun q => by (rw [ht] at q; cases q), fun x hx => ?_, fun x hx => ?_, fun i q => by (rw [hv] at q; cases q)⟩
  · rw [backT_length, ← hlen]; exact a.st.len
  · by_cases q : i ∈ ow
    · rw [backT_in hlen q] at hh; exact a.st.val i t hh
    · rw [backT_out q] at hh
      have := c.st.val i t hh
      rwa [wipe_out q] at this
  · by_cases q : i ∈ ow
    · rw [backT_in hlen q] at hh
      exact (a.st.hold i t hh).keep c.w wsoft fun x hx => wiped_apart a.st.one q hh hx
    · rw [backT_out q] at hh
      exact c.st.hold i t hh
  · have := new2 x; omega
  · refine a.w.trans c.w fun x hx => ?_
    have hx : 0 < cntE x (wipeT ev1 ow) := hx
    by_cases q : H x = none
    · exact .inr q
    · have := a.old x q; have := wc1 x
      exact .inl (by show 0 < cntE x ev; omega)
  · have h2 := old2 x hx
    have h3 := hcnt x
    have hne : x ≠ D' := fun z => hx (by rw [z]; exact hDnone)
    rw [if_neg hne] at h3
    omega
  · have h2 := new2 x
    have h3 := hcnt x
    by_cases hne : x = D'
    · subst hne
      rw [if_pos rfl] at h3
      omega
    · rw [if_neg hne] at h3
      omega
/-- a turn's item -/
theorem elt_turn {pe : Dn} {ow : List Nat} {I : Inv4} {acc : List VS.T} {D' : Addr} {items : List D} {chk : Env → Prop} {J : L2.It} {σ2 : Sl} {Nx : Hp → Prop} (c : CInv K ow Z1 H1 σ ev1 D' I Z H ev acc) (so : SrcOk K ow H1 items chk J I)
    (st2 : StOk K Z2 H2 σ2 ev2) (w2 : W Z H (SE ev) Z2 H2) (hs : ∀ j, j ∉ ow → σ2[j]? = (L2.wipe σ ow)[j]?) (hl : σ2.length = σ.length) (old : ∀ a, H a ≠ none → cntE a ev2 ≤ cntE a ev)
    (hk : ∀ d env', evOne pe (erE ev2) = .ok d env' → acc.length < sizeLine ∧ ∀ Z3 H3 ev3 t, t.er = d → erE ev3 = env' → CInv K ow Z1 H1 σ ev1 D' I Z3 (upd H3 D' (.lst (vals acc ++ [t.val]))) (wipeT ev3 ow) (acc ++ [t]) → Nx (upd H3 D' (.lst (vals acc ++ [t.val]))))
    (hx : ∀ x env', evOne pe (erE ev2) ≠ .exn x env') (hst : evOne pe (erE ev2) ≠ .stuck) : tE K XR wF pe σ2 H2 fun y H4 => ∃ ac, H4 D' = some (.lst ac) ∧ ac.length < sizeLine ∧ Nx (upd H4 D' (.lst (ac ++ [y]))) := by
  refine ⟨Z2, ev2, st2, ER.mono (k := fun Z3 H3 ev3 t => Kept pe.1 t ∧ ∃ d env', evOne pe (erE ev2) = .ok d env' ∧ t.er = d ∧ erE ev3 = env') (evOne_ER ?_) fun Z3 H3 ev3 t af q => ?_⟩
  · show ER K XR wF pe.1 Z2 H2 σ2 ev2 (evOne pe (erE ev2)) _
    cases hr : evOne pe (erE ev2) with
    | stuck => exact absurd hr hst
    | exn x env' => exact absurd hr (hx x env')
    | ok d env' => exact fun Z3 H3 ev3 t et ee _ => ⟨d, env', rfl, et, ee⟩
  · obtain ⟨kp, d, env', e1, e2, e3⟩ := q
    obtain ⟨hz, hn⟩ := hk d env' e1
    have w3 : W Z H (SE ev) Z3 H3 := w2.trans af.w (se_le old)
    have o3 : ∀ a, H a ≠ none → cntE a ev3 + t.cnt a ≤ cntE a ev := fun a ha => by
      have h1 := af.old a (w2.gr' ha)
      have h2 := old a ha
      rw [← kp.cnt a] at h1
      omega
    have n3 : ∀ a, H a = none → cntE a ev3 + t.cnt a ≤ 1 := fun a ha => by
      by_cases q : H2 a = none
      · have h1 := af.new a q; rw [← kp.cnt a] at h1; exact h1
      · have h1 := af.old a q
        have := st2.one a
        rw [← kp.cnt a] at h1
        omega
    obtain ⟨c3, b1, b2, b3⟩ := c.step so af.st w3 hs hl o3 n3
    exact ⟨vals acc, c3.hD, by rw [List.length_map]; exact hz, hn Z3 H3 ev3 t e2 e3 (c3.push so af.hd b1 b2 b3)⟩
theorem comp_tLc {e : E} {pe : Dn} {tg : Tg} {itf : Env → VS.R (List D × (Env → Prop))} {cond : Option Dn} {ow : List Nat} {g : TG} (hg : GOk K tg g) (ho : ∀ j ∈ tgSlots tg, j ∈ ow) (ht : triv e = false) (hv : isVar e = none)
    {Q : VK} (h : tE K XR Wx (e, evComp pe tg itf cond ow) σ H Q) : tLc (tI K XR Wx ow itf) g (tCond K XR cond) (tE K XR wF pe) ow σ H Q := by
  obtain ⟨Z, ev, s, h⟩ := h
  refine ⟨Z, ev, s, ?_⟩
  have h1 : IRes K XR Wx ow Z H σ ev (itf (erE ev)) fun items chk J Z1 H1 ev1 I => ∀ D', H1 D' = none → CRes K ow Z1 H1 σ ev1 D' I (compGo (compOne pe tg cond ow) chk items [] (wipeE (erE ev1) ow)) fun H' => Q (.ref D') H' := by
    simp only at h
    unfold evComp at h
    cases hi : itf (erE ev) with
    | stuck => rw [hi] at h; exact h.elim
    | exn x env' => rw [hi] at h; exact h
    | ok p env' =>
      rw [hi] at h
      intro J Z1 H1 ev1 I ee a so hI D' hD'
      simp only [VS.R.bind] at h
      rw [ee]
      cases hc : compGo (compOne pe tg cond ow) p.2 p.1 [] (wipeE env' ow) with
      | stuck => rw [hc] at h; exact h.elim
      | exn x env2 => exact absurd hc (compGo_noexn _ _ _)
      | ok ds env2 =>
        rw [hc] at h
        intro Z2 H2 ev2 acc e1 e2 c
        exact h Z2 H2 (backT ev1 ev2 ow) (.lst D' acc) (by rw [VS.T.er, e1]) (by rw [backT_er, ee, e2]) (comp_end s a c ht hv)
  refine IRes.mono h1 fun items chk J Z1 H1 ev1 I hi a so hI q D' hD' => ?_
  have q := q D' hD'
  refine ⟨fun i m H => ∃ Z ev acc, CInv K ow Z1 H1 σ ev1 D' I Z H ev acc ∧ m = items.length - i ∧ i ≤ items.length ∧ CRes K ow Z1 H1 σ ev1 D' I (compGo (compOne pe tg cond ow) chk (items.drop i) (ers acc) (erE ev)) fun H' => Q (.ref D') H', ⟨items.length, Z1, wipeT ev1 ow, [], ?_, by simp, Nat.zero_le _, ?_⟩, fun i m H hW => ?_⟩
  · have w0 : W Z1 H1 (fun _ => False) Z1 (upd H1 D' (.lst [])) := W.new hD'
    have sw := a.st.wipe ow
    refine ⟨sw.kept0 w0, ?_, upd_same, fun z => a.st.zk D' z hD', .nil, ⟨?_, rfl⟩, w0.mono fun _ z => z.elim, fun x _ => by simp [cnts], fun x _ => by have := sw.one x; simp [cnts]; omega, hD', sw.one⟩
    · exact so.keep _ _ _ _ _ _ _ _ _ hI a.st w0 Soft.empty (fun _ z => z.elim) (fun x _ => wipeT_cnt x ev1 ow) fun j hj => wipe_out hj
    · by_cases z : 0 < cntE D' (wipeT ev1 ow)
      · exact absurd hD' (sw.soft D' z).2.some
      · omega
  · rw [List.drop_zero, wipeT_er]; exact q
  · obtain ⟨Z, ev, acc, c, rfl, hle, hr⟩ := hW
    by_cases hlt : i < items.length
    · right
      obtain ⟨d, hd⟩ : ∃ d, items[i]? = some d := ⟨items[i], List.getElem?_eq_getElem hlt⟩
      have hdrop : items.drop i = d :: items.drop (i + 1) := by
        rw [List.getElem?_eq_getElem hlt] at hd
        cases hd
        exact List.drop_eq_getElem_cons hlt
      rw [hdrop] at hr
      unfold compGo at hr
      split at hr
      · rename_i hchk
        obtain ⟨hgo, hy⟩ := so.go _ _ _ _ i d c.src c.st hchk hd
        refine ⟨hgo, CN K ow Z1 H1 σ ev1 D' I (compOne pe tg cond ow) chk (items.drop (i + 1)) (fun H' => Q (.ref D') H'), fun H' hN => ?_, fun x H' hyl => ?_⟩
        · obtain ⟨Z', ev', acc', n1, n2⟩ := hN
          exact ⟨items.length - (i + 1), by omega, Z', ev', acc', n1, rfl, hlt, n2⟩
        · obtain ⟨wy, cc, rfl, rc⟩ := hy x H' hyl
          have stH' := c.st.kept0 wy
          cases hbt : bindTg tg (.imm cc) (erE ev) with
          | none => simp only [compOne, hbt] at hr; exact hr.elim
          | some env1 =>
            refine hg stH' rc hbt fun σ2 ev2 g1 g2 g3 g4 g5 => ?_
            have hs2 : ∀ j, j ∉ ow → σ2[j]? = (L2.wipe σ ow)[j]? := fun j hj => g4 j fun z => hj (ho j z)
            have hl2 : σ2.length = σ.length := by rw [g5, wipe_length]
            have w2 : W Z H (SE ev) Z H' := wy.mono fun _ z => z.elim
            refine ⟨wipe_same hl2 hs2, ?_⟩
            simp only [compOne, hbt] at hr
            cases cond with
            | none =>
              have hT : ∀ q : Bool → Hp → Prop, q true H' → tCond K XR none σ2 H' q := fun q h => h
              refine hT _ ?_
              rw [if_pos rfl]
              simp only at hr
              rw [← g1] at hr
              refine elt_turn c so g2 w2 hs2 hl2 (fun a _ => g3 a) (fun d' env' he => ?_) (fun x' env' he => ?_) (fun he => ?_)
              · rw [he] at hr
                simp only [VS.R.bind] at hr
                split at hr
                · rename_i hz
                  refine ⟨by rw [← ers_length]; exact hz, fun Z3 H3 ev3 t e2 e3 c3 => ⟨Z3, _, _, c3, ?_⟩⟩
                  rw [ers_append, wipeT_er, e3]
                  simpa [ers, e2] using hr
                · exact hr.elim
              · rw [he] at hr; exact hr.elim
              · rw [he] at hr; exact hr.elim
            | some pc =>
              simp only at hr
              rw [← g1] at hr
              refine ⟨Z, ev2, g2, ?_⟩
              show ER K XR wF pc.1 Z H' σ2 ev2 (pc.2 (erE ev2)) _
              cases hcv : pc.2 (erE ev2) with
              | stuck => rw [hcv] at hr; exact hr.elim
              | exn x' env' => rw [hcv] at hr; exact hr.elim
              | ok dc env3 =>
                rw [hcv] at hr
                intro Z3 H3 ev3 tc et ee af
                have w3 : W Z H (SE ev) Z3 H3 := w2.trans af.w (se_le fun a _ => g3 a)
                have o3 : ∀ a, H a ≠ none → cntE a ev3 ≤ cntE a ev := fun a ha => by
                  have h1 := af.x.old a (wy.gr' ha)
                  have h2 := g3 a
                  omega
                simp only [evIf, VS.R.bind] at hr
                split at hr <;> rename_i hsp
                · split at hsp
                  · -- true
                    obtain ⟨vc, rfl⟩ := er_imm et
                    refine ⟨true, rc_bool (holds_imm af.hd rfl), ?_⟩
                    simp only [if_true]
                    rw [← ee] at hsp
                    refine elt_turn c so af.st w3 hs2 hl2 o3 (fun d' env' he => ?_) (fun x' env' he => ?_) (fun he => ?_)
                    · rw [he] at hsp
                      simp only [VS.R.ok.injEq, Option.some.injEq] at hsp
                      obtain ⟨rfl, rfl⟩ := hsp
                      split at hr
                      · rename_i hz
                        refine ⟨by rw [← ers_length]; exact hz, fun Z4 H4 ev4 t e2 e3 c3 => ⟨Z4, _, _, c3, ?_⟩⟩
                        rw [ers_append, wipeT_er, e3]
                        simpa [ers, e2] using hr
                      · exact hr.elim
                    · rw [he] at hsp; cases hsp
                    · rw [he] at hsp; cases hsp
                  · cases hsp
                  · cases hsp
                · split at hsp
                  · -- an item that is kept can not be none
                    exfalso
                    split at hsp <;> cases hsp
                  · obtain ⟨vc, rfl⟩ := er_imm et
                    refine ⟨false, rc_bool (holds_imm af.hd rfl), ?_⟩
                    simp only [Bool.false_eq_true, if_false]
                    cases hsp
                    have n3 : ∀ a, H a = none → cntE a ev3 + 0 ≤ 1 := fun a _ => af.st.one a
                    obtain ⟨c3, _⟩ := c.step (m := fun _ => 0) so af.st w3 hs2 hl2 (fun a ha => o3 a ha) n3
                    refine ⟨Z3, _, _, c3, ?_⟩
                    rw [wipeT_er, ee]
                    exact hr
                  · cases hsp
                · exact hr.elim
      · exact hr.elim
    · left
      have e : i = items.length := by omega
      subst e
      rw [List.drop_length] at hr
      unfold compGo at hr
      split at hr
      · rename_i hchk
        exact ⟨so.stop _ _ _ _ c.src c.st hchk, hr Z H ev acc rfl rfl c⟩
      · exact hr.elim
end
end VS

/-! VS10b: two walked together; downwards. -/
set_option linter.all false
set_option autoImplicit false
set_option maxRecDepth 100000
set_option maxHeartbeats 2000000
namespace VS
open PySem PySem.Spec PyProof.Rows L2
open RZ (ItzT iZipA pi_zipA)
section
variable {K : PySem.W.Frag} {XR : XRel} {Wx : WX'} {Z Z' Z1 Z2 : Addr → Prop} {H H' H1 H2 : Hp} {σ : Sl} {ev ev' ev1 ev2 eva : EnvT}
theorem src_down {A : List Nat} {H0 : Hp} {lo : Int} {n : Nat} : SrcOk K A H0 (rangeD lo n) (fun _ => True) (Itc lo (-1) n) fun _ _ _ _ => True where
  go := fun Z H σ ev i d _ s _ hd => by
    unfold rangeD at hd
    rw [List.getElem?_map] at hd
    cases g : (List.range n)[i]? with
    | none => rw [g] at hd; cases hd
    | some j =>
      rw [g] at hd
      simp only [Option.map_some, Option.some.injEq] at hd
      obtain ⟨g1, g2⟩ := List.getElem?_eq_some_iff.mp g
      rw [List.getElem_range] at g2
      subst g2
      refine ⟨show i < n by simpa using g1, fun x H' y => ?_⟩
      obtain ⟨rfl, rfl⟩ := y
      exact ⟨W.refl, _, hd.symm, .int _⟩
  stop := fun Z H σ ev _ _ _ => by
    show n ≤ _
    simp [rangeD]
  keep := fun _ _ _ _ _ _ _ _ _ _ _ _ _ _ _ _ => trivial
theorem down_tLn {A : List Nat} {ps : List Dn} (hp : ∀ p ∈ ps, DnOk p) {R : L2.It → Hp → Prop} (h : tI K XR Wx A (itDown ps) σ H R) :
    tLn K XR Wx ps σ H fun vs H1 => ∃ (i j c : Int) (n : Nat), vs = [.int i, .int j, .int c] ∧ RgC i j c n ∧ R (Itc i c n) H1 := by
  obtain ⟨Z, ev, s, h⟩ := h
  refine evL_tLn (k := fun Z1 H1 ev1 ts => ∃ (i j c : Int) (n : Nat), vals ts = [.int i, .int j, .int c] ∧ RgC i j c n ∧ R (Itc i c n) H1) s hp ?_ fun Z1 H1 ev1 ts q => q
  unfold itDown at h
  cases hl : evL ps (erE ev) with
  | stuck => rw [hl] at h; exact h.elim
  | exn x env' => rw [hl] at h; exact h
  | ok ds env' =>
    rw [hl] at h
    intro Z1 H1 ev1 ts e1 e2 aft
    simp only [VS.R.bind] at h
    split at h
    · rename_i a b c
      split at h
      · rename_i hk
        simp only [Bool.and_eq_true, beq_iff_eq, okR, decide_eq_true_eq] at hk
        obtain ⟨⟨⟨k1, k2⟩, k3, k4⟩, rfl⟩ := hk
        obtain ⟨t1, t2, t3, rfl, g1, g2, g3⟩ := ers_three e1
        have r1 := rc_int (holds_imm (aft.hd.all t1 (by simp)) g1)
        have r2 := rc_int (holds_imm (aft.hd.all t2 (by simp)) g2)
        have r3 := rc_int (holds_imm (aft.hd.all t3 (by simp)) g3)
        exact ⟨a, b, -1, _, by simp [r1, r2, r3], RgC.neg k1 k2 k3 k4, h _ _ _ _ _ e2 aft.x src_down trivial⟩
      · exact h.elim
    · exact h.elim
/-- a side's place -/
def sqB (t : Bool) (K : PySem.W.Frag) (H : Hp) (a : Addr) (vs : List V) : Prop := if t = true then SqT K H a vs else SqL K H a vs
structure CurOk (K : PySem.W.Frag) (A : List Nat) (cs : List C) (chk : Env → Prop) (t : Bool) (a : Addr) (I : Inv4) : Prop where
  cur : ∀ Z H σ ev, I Z H σ ev → StOk K Z H σ ev → chk (erE ev) → ∃ vs, sqB t K H a vs ∧ RCs K Z H vs cs
  keep : ∀ Z H σ ev Z' H' σ' ev' S, I Z H σ ev → StOk K Z H σ ev → W Z H S Z' H' → Soft Z H S → (∀ j, j ∉ A → σ'[j]? = σ[j]?) → I Z' H' σ' ev'
theorem side_cur {A : List Nat} {e : E} {t : VS.T} {b : Bool} {cs : List C} {chk : Env → Prop} (st : StOk K Z H σ ev) (hd : Holds K Z H t) (hv : isImm t.er = true ∨ ∀ i, isVar e = some i → ev[i]? = some (some t)) (h : zSide A e t.er = some (b, cs, chk)) :
    ∃ a I, t.val = .ref a ∧ CurOk K A cs chk b a I ∧ (∃ vs, sqB b K H a vs) ∧ I Z H σ ev := by
  unfold zSide at h
  split at h
  · rename_i ds ed
    obtain ⟨v, rfl⟩ := er_imm ed
    obtain ⟨a, vs, a1, a2, a3⟩ := rc_tup (holds_imm hd rfl)
    simp only [Option.some.injEq, Prod.mk.injEq] at h
    obtain ⟨rfl, rfl, rfl⟩ := h
    exact ⟨a, fun Z H _ _ => SqT K H a vs ∧ RCs K Z H vs ds, a1, ⟨fun Z H σ ev i _ _ => ⟨vs, i.1, i.2⟩, fun Z H σ ev Z' H' σ' ev' S i _ w sf _ => ⟨w.sqT sf i.1, i.2.keep w sf⟩⟩, ⟨vs, a2⟩, a2, a3⟩
  · rename_i ds ed
    obtain ⟨v, rfl⟩ := er_imm ed
    obtain ⟨a, vs, a1, a2, a3⟩ := rc_lst (holds_imm hd rfl)
    simp only [Option.some.injEq, Prod.mk.injEq] at h
    obtain ⟨rfl, rfl, rfl⟩ := h
    exact ⟨a, fun Z H _ _ => SqZ K Z H a vs ∧ RCs K Z H vs ds, a1, ⟨fun Z H σ ev i _ _ => ⟨vs, i.1.sq, i.2⟩, fun Z H σ ev Z' H' σ' ev' S i _ w sf _ => ⟨w.sqZ sf i.1, i.2.keep w sf⟩⟩, ⟨vs, a2.sq⟩, a2, a3⟩
  · rename_i xs ed
    split at h
    · rename_i ds i hds hi
      split at h
      · cases h
      · rename_i hA
        simp only [Option.some.injEq, Prod.mk.injEq] at h
        obtain ⟨rfl, rfl, rfl⟩ := h
        obtain ⟨a, ts, rfl⟩ : ∃ a ts, t = .lst a ts := by
          cases t <;> simp [VS.T.er] at ed
          exact ⟨_, _, rfl⟩
        simp only [VS.T.er, D.lst.injEq] at ed
        have hs : ev[i]? = some (some (.lst a ts)) := hv.elim (fun z => by simp [VS.T.er, isImm] at z) fun z => z i hi
        refine ⟨a, fun _ _ σ _ => σ[i]? = some (some (.ref a)), rfl, ⟨fun Z H σ ev h1 s hk => ?_, fun Z H σ ev Z' H' σ' ev' S h1 _ _ _ sl => ?_⟩, ?_, st.val i _ hs⟩
        · obtain ⟨u, hu, eu⟩ := rd_some hk
          have hval := s.val i u hu
          rw [h1] at hval
          simp only [Option.some.injEq] at hval
          obtain ⟨a', us, rfl⟩ : ∃ a us, u = .lst a us := by
            cases u <;> simp [VS.T.er] at eu
            exact ⟨_, _, rfl⟩
          simp only [VS.T.val, V.ref.injEq] at hval
          subst hval
          simp only [VS.T.er, D.lst.injEq] at eu
          have hh := s.hold i _ hu
          cases hh with
          | lst g1 g2 g3 => exact ⟨vals us, .of g1, imms_ers g3 (by rw [eu]; exact hds)⟩
        · rw [sl i (fun z => by simp [List.contains_iff_mem] at hA; exact hA z)]; exact h1
        · cases hd with
          | lst g1 g2 g3 => exact ⟨_, .of g1⟩
    · cases h
  · cases h
theorem pairs_get : ∀ {cs ds : List C} {i : Nat} {d : D}, (pairs cs ds)[i]? = some d → ∃ a b, cs[i]? = some a ∧ ds[i]? = some b ∧ d = .imm (.tuple [a, b])
  | [], _, i, d, h => by simp [pairs] at h
  | _ :: _, [], i, d, h => by simp [pairs] at h
  | a :: as, b :: bs, 0, d, h => by simp [pairs] at h; exact ⟨a, b, rfl, rfl, h.symm⟩
  | a :: as, b :: bs, i + 1, d, h => by
    obtain ⟨x, y, h1, h2, h3⟩ := pairs_get (cs := as) (ds := bs) (i := i) (by simpa [pairs] using h)
    exact ⟨x, y, by simpa using h1, by simpa using h2, h3⟩
theorem pairs_len : ∀ {cs ds : List C}, (pairs cs ds).length = min cs.length ds.length
  | [], _ => by simp [pairs]
  | _ :: _, [] => by simp [pairs]
  | a :: as, b :: bs => by simp [pairs, pairs_len (cs := as) (ds := bs)]
theorem src_zip {A : List Nat} {H0 : Hp} {cs ds : List C} {c1 c2 : Env → Prop} {a b : Addr} {t : Bool} {I1 I2 : Inv4} (s1 : CurOk K A cs c1 t a I1) (s2 : CurOk K A ds c2 t b I2) :
    SrcOk K A H0 (pairs cs ds) (fun env => c1 env ∧ c2 env) (if t = true then ItzT K a b else Itz K a b) fun Z H σ ev => I1 Z H σ ev ∧ I2 Z H σ ev where
  go := fun Z H σ ev i d ⟨i1, i2⟩ s ⟨k1, k2⟩ hd => by
    obtain ⟨x, y, h1, h2, rfl⟩ := pairs_get hd
    obtain ⟨vs, v1, v2⟩ := s1.cur _ _ _ _ i1 s k1
    obtain ⟨ws, w1, w2⟩ := s2.cur _ _ _ _ i2 s k2
    obtain ⟨u, u1, u2⟩ := v2.getC h1
    obtain ⟨z, z1, z2⟩ := w2.getC h2
    have fin : ∀ (T : Addr) (x' y' : V), H T = none → x' = u → y' = z → W Z H (fun _ => False) Z (upd H T (.tup [x', y'])) ∧ ∃ c, D.imm (.tuple [x, y]) = .imm c ∧ RC K Z (upd H T (.tup [x', y'])) (.ref T) c := fun T x' y' hT e1 e2 => by
      subst e1 e2
      have w : W Z H (fun _ => False) Z (upd H T (.tup [x', y'])) := W.new hT
      exact ⟨w, _, rfl, .tup (.of upd_same) (.cons (u2.keep w Soft.empty) (.cons (z2.keep w Soft.empty) .nil))⟩
    cases t
    · simp only [sqB, Bool.false_eq_true, if_false] at *
      refine ⟨⟨vs, ws, u, z, v1, w1, u1, z1⟩, fun v H' q => ?_⟩
      obtain ⟨T, x', y', rfl, hT, rfl, f1, f2⟩ := q
      exact fin T x' y' hT (Option.some.inj ((f1 _ v1).symm.trans u1)) (Option.some.inj ((f2 _ w1).symm.trans z1))
    · simp only [sqB, if_true] at *
      refine ⟨⟨vs, ws, u, z, v1, w1, u1, z1⟩, fun v H' q => ?_⟩
      obtain ⟨T, x', y', rfl, hT, rfl, f1, f2⟩ := q
      exact fin T x' y' hT (Option.some.inj ((f1 _ v1).symm.trans u1)) (Option.some.inj ((f2 _ w1).symm.trans z1))
  stop := fun Z H σ ev ⟨i1, i2⟩ s ⟨k1, k2⟩ => by
    obtain ⟨vs, v1, v2⟩ := s1.cur _ _ _ _ i1 s k1
    obtain ⟨ws, w1, w2⟩ := s2.cur _ _ _ _ i2 s k2
    have l : vs.length ≤ (pairs cs ds).length ∨ ws.length ≤ (pairs cs ds).length := by
      rw [pairs_len, v2.length, w2.length]; omega
    cases t
    · simp only [sqB, Bool.false_eq_true, if_false] at *
      exact ⟨vs, ws, v1, w1, l⟩
    · simp only [sqB, if_true] at *
      exact ⟨vs, ws, v1, w1, l⟩
  keep := fun Z H σ ev Z' H' σ' ev' S ⟨i1, i2⟩ s w sf _ _ sl => ⟨s1.keep _ _ _ _ _ _ _ _ _ i1 s w sf sl, s2.keep _ _ _ _ _ _ _ _ _ i2 s w sf sl⟩
theorem zip_iZipA {A : List Nat} {p q : Dn} (hp : DnOk p) (hq : DnOk q) {R : L2.It → Hp → Prop} (h : tI K XR Wx A (itZip A p q) σ H R) : iZipA K (tCons (tE K XR Wx p) (tCons (tE K XR Wx q) tNil)) σ H R := by
  obtain ⟨Z, ev, s, h⟩ := h
  refine ⟨Z, ev, s, ?_⟩
  unfold itZip at h
  cases hf : p.2 (erE ev) with
  | stuck => rw [hf] at h; exact h.elim
  | exn x env' => rw [hf] at h; exact h
  | ok d env1 =>
    rw [hf] at h
    intro Z1 H1 ev1 t1 et1 ee1 a1
    simp only [VS.R.bind] at h
    refine ⟨Z1, ev1, a1.st, ?_⟩
    rw [ee1]
    cases hg : q.2 env1 with
    | stuck => rw [hg] at h; exact h.elim
    | exn x env' => rw [hg] at h; exact XC.after h a1.x
    | ok d2 env2 =>
      rw [hg] at h
      intro Z2 H2 ev2 t2 et2 ee2 a2
      simp only at h
      split at h
      · rename_i hc
        simp only [Bool.or_eq_true] at hc
        have hd1 : Holds K Z2 H2 t1 := by
          rcases hc with hc | hc
          · rw [← et1] at hc
            obtain ⟨v, c, rfl⟩ := isImm_er hc
            exact .imm ((holds_imm a1.hd rfl).keep a2.w a1.st.soft)
          · exact a1.hd.keep0 (a2.tr hc).2
        have hv1 : isImm t1.er = true ∨ ∀ i, isVar p.1 = some i → ev2[i]? = some (some t1) := by
          rcases hc with hc | hc
          · rw [← et1] at hc; exact .inl hc
          · exact .inr fun i hi => by rw [(a2.tr hc).1]; exact a1.var i hi
        have hv2 : isImm t2.er = true ∨ ∀ i, isVar q.1 = some i → ev2[i]? = some (some t2) := .inr fun i hi => a2.var i hi
        rw [← et1, ← et2] at h
        have fin : ∀ (t : Bool) (cs ds : List C) (c1 c2 : Env → Prop), zSide A p.1 t1.er = some (t, cs, c1) → zSide A q.1 t2.er = some (t, ds, c2) → IRes K XR Wx A Z H σ ev (.ok (pairs cs ds, fun env => c1 env ∧ c2 env) env2) (fun _ _ J _ H' _ _ => R J H') →
            ∃ a b xs ys, [t1.val, t2.val] = [V.ref a, V.ref b] ∧ ((SqL K H2 a xs ∧ SqL K H2 b ys ∧ R (Itz K a b) H2) ∨ (SqT K H2 a xs ∧ SqT K H2 b ys ∧ R (ItzT K a b) H2)) := fun t cs ds c1 c2 z1 z2 hh => by
          obtain ⟨a, I1, b1, b2, ⟨xs, b3⟩, b4⟩ := side_cur a2.st hd1 hv1 z1
          obtain ⟨b, I2, d1, d2, ⟨ys, d3⟩, d4⟩ := side_cur a2.st a2.hd hv2 z2
          have r := hh _ _ _ _ _ ee2 (a1.x.trans a2.x) (src_zip b2 d2) ⟨b4, d4⟩
          refine ⟨a, b, xs, ys, by rw [b1, d1], ?_⟩
          cases t
          · simp only [sqB, Bool.false_eq_true, if_false] at *
            exact .inl ⟨b3, d3, r⟩
          · simp only [sqB, if_true] at *
            exact .inr ⟨b3, d3, r⟩
        split at h
        · exact fin _ _ _ _ _ ‹_› ‹_› h
        · exact fin _ _ _ _ _ ‹_› ‹_› h
        · exact h.elim
      · exact h.elim
end
end VS

/-! VS11: names, constants, truths: from the evaluator to the layer's readings. -/
set_option linter.all false
set_option autoImplicit false
set_option maxRecDepth 100000
set_option maxHeartbeats 2000000
namespace VS
open PySem PySem.Spec PyProof.Rows L2
section
variable {K : PySem.W.Frag} {XR : XRel} {Wx : WX'} {Z Z' Z1 Z2 : Addr → Prop} {H H' H1 H2 : Hp} {σ : Sl} {ev ev' ev1 eva : EnvT}
theorem var_tVar {i : Nat} {Q : VK} (h : tE K XR Wx (.var i, fun env => .of (rd i env) env) σ H Q) : tVar i σ H Q := by
  obtain ⟨Z, ev, s, h⟩ := h
  simp only at h
  cases hr : rd i (erE ev) with
  | none => rw [hr] at h; exact h.elim
  | some d =>
    rw [hr] at h
    obtain ⟨t, e, et⟩ := rd_some hr
    exact ⟨t.val, s.val i t e, h Z H ev t et rfl (Aft.read s e)⟩
theorem mv_tVar {i : Nat} {Q : VK} (h : tE K XR Wx (.mv i, evMv i) σ H Q) : tVar i σ H Q := by
  obtain ⟨Z, ev, s, h⟩ := h
  simp only [evMv] at h
  split at h
  · rename_i c hr
    obtain ⟨t, e, et⟩ := rd_some hr
    have r := Aft.read s e
    refine ⟨t.val, s.val i t e, h Z H ev t et rfl ⟨r.st, r.hd, r.w, fun q => (by cases q), fun a ha => ?_, fun a ha => ?_, fun j q => (by cases q)⟩⟩
    · rw [own_imm (by rw [et]; rfl)]; omega
    · rw [own_imm (by rw [et]; rfl)]; have := s.one a; omega
  · rename_i d hn hr
    obtain ⟨t, e, et⟩ := rd_some hr
    have hc : ∀ a, cntE a (ev.set i none) + t.cnt a = cntE a ev := fun a => by have := cntE_set a none e; simpa [oc] using this
    refine ⟨t.val, s.val i t e, h Z H (ev.set i none) t et (by rw [erE_set]; rfl) ⟨⟨by rw [List.length_set]; exact s.len, fun j u hj => ?_, fun j u hj => ?_, fun a => by have := hc a; have := s.one a; omega, s.zk⟩, s.hold i t e, W.refl, fun q => (by cases q), fun a ha => ?_, fun a ha => ?_, fun j q => (by cases q)⟩⟩
    · rw [List.getElem?_set] at hj
      split at hj
      · split at hj <;> simp at hj
      · exact s.val j u hj
    · rw [List.getElem?_set] at hj
      split at hj
      · split at hj <;> simp at hj
      · exact s.hold j u hj
    · have := hc a; have := own_le (.mv i) t a; omega
    · have := hc a; have := own_le (.mv i) t a; have := s.one a; omega
  · exact h.elim
theorem SqZ.more {a : Addr} {xs : List V} (h : SqZ K Z H a xs) (w : ∀ a, Z a → Z' a) : SqZ K Z' H a xs := h.imp_left fun h => ⟨w _ h.1, h.2⟩
mutual
theorem RC.more (w : ∀ a, Z a → Z' a) : ∀ {v : V} {c : C}, RC K Z H v c → RC K Z' H v c
  | _, _, .non => .non
  | _, _, .bl b => .bl b
  | _, _, .int i => .int i
  | _, _, .str s => .str s
  | _, _, .lst h r => .lst (h.more w) (r.more w)
  | _, _, .tup h r => .tup h (r.more w)
theorem RCs.more (w : ∀ a, Z a → Z' a) : ∀ {vs : List V} {cs : List C}, RCs K Z H vs cs → RCs K Z' H vs cs
  | _, _, .nil => .nil
  | _, _, .cons h r => .cons (h.more w) (r.more w)
end
mutual
theorem Holds.frz {F : Addr → Prop} : ∀ {t : VS.T} {c : C}, Holds K Z H t → t.er.c? = some c → (∀ a, 0 < t.cnt a → F a) → RC K (fun a => Z a ∨ F a) H t.val c
  | _, c', .imm (c := c) r, e, hf => by
    simp only [VS.T.er, D.c?, Option.some.injEq] at e
    subst e
    exact r.more (fun _ h => .inl h)
  | _, c', .lst (a := a) h1 h2 h3, e, hf => by
    simp only [VS.T.er, D.c?, Option.map_eq_some_iff] at e
    obtain ⟨cs, e1, rfl⟩ := e
    exact .lst (.inl ⟨.inr (hf a (by rw [VS.T.cnt, if_pos rfl]; omega)), h1⟩) (h3.frz e1 fun b hb => hf b (by rw [VS.T.cnt]; omega))
  | _, c', .dctK h1 _ _ h2 h3, e, hf => by simp [VS.T.er, D.c?] at e
  | _, c', .tup h1 h3, e, hf => by
    simp only [VS.T.er, D.c?, Option.map_eq_some_iff] at e
    obtain ⟨cs, e1, rfl⟩ := e
    exact .tup (.of h1) (h3.frz e1 fun b hb => hf b (by rw [VS.T.cnt]; omega))
theorem HoldsL.frz {F : Addr → Prop} : ∀ {ts : List VS.T} {cs : List C}, HoldsL K Z H ts → cs? (ers ts) = some cs → (∀ a, 0 < cnts a ts → F a) → RCs K (fun a => Z a ∨ F a) H (vals ts) cs
  | _, cs', .nil, e, hf => by simp [ers, cs?] at e; subst e; exact .nil
  | _, cs', .cons h1 h2, e, hf => by
    simp only [ers, cs?] at e
    split at e
    · rename_i c cs e1 e2
      cases e
      exact .cons (h1.frz e1 fun b hb => hf b (by rw [cnts]; omega)) (h2.frz e2 fun b hb => hf b (by rw [cnts]; omega))
    · cases e
end
theorem fz_tVar {i : Nat} {Q : VK} (h : tE K XR Wx (.fz i, evFz i) σ H Q) : tVar i σ H Q := by
  obtain ⟨Z, ev, s, h⟩ := h
  simp only [evFz] at h
  split at h
  · rename_i c hr
    obtain ⟨t, e, et⟩ := rd_some hr
    have r := Aft.read s e
    refine ⟨t.val, s.val i t e, h Z H ev t et rfl ⟨r.st, r.hd, r.w, fun q => (by cases q), fun a ha => ?_, fun a ha => ?_, fun j q => (by cases q)⟩⟩
    · rw [own_imm (by rw [et]; rfl)]; omega
    · rw [own_imm (by rw [et]; rfl)]; have := s.one a; omega
  · rename_i d hn hr
    obtain ⟨t, e, et⟩ := rd_some hr
    split at h
    · rename_i c hc
      rw [← et] at hc
      have hcn : ∀ a, cntE a (ev.set i (some (.imm t.val c))) + t.cnt a = cntE a ev := fun a => by have := cntE_set a (some (.imm t.val c)) e; simpa [oc, VS.T.cnt] using this
      have hs : ∀ a, 0 < t.cnt a → SE ev a := fun a ha => by have := cntE_le a e; simp only [oc] at this; show 0 < cntE a ev; omega
      have w : W Z H (SE ev) (fun a => Z a ∨ 0 < t.cnt a) H := W.freeze hs fun a ha => (s.soft a (hs a ha)).2.some
      have r := (s.hold i t e).frz hc fun a ha => ha
      have il : i < ev.length := (List.getElem?_eq_some_iff.mp e).1
      have hout : ∀ j u, j ≠ i → ev[j]? = some (some u) → ∀ a, 0 < u.cnt a → ¬ 0 < t.cnt a := fun j u hj hu a h1 h2 => by
        have h3 := cntE_set a none e
        have h4 : (ev.set i none)[j]? = some (some u) := by rw [List.getElem?_set_ne (fun z => hj z.symm)]; exact hu
        have h5 := cntE_le a h4
        have h6 := s.one a
        simp only [oc] at h3 h5
        omega
      refine ⟨t.val, s.val i t e, h (fun a => Z a ∨ 0 < t.cnt a) H (ev.set i (some (.imm t.val c))) (.imm t.val c) rfl (by rw [erE_set]; rfl) ⟨⟨by rw [List.length_set]; exact s.len, fun j u hj => ?_, fun j u hj => ?_, fun a => by have := hcn a; have := s.one a; omega, w.ze s.zk⟩, .imm r, w, fun q => (by cases q), fun a ha => ?_, fun a ha => ?_, fun j q => (by cases q)⟩⟩
      · by_cases q : j = i
        · subst q; rw [List.getElem?_set_self il] at hj; cases hj; exact s.val j t e
        · rw [List.getElem?_set_ne (fun z => q z.symm)] at hj; exact s.val j u hj
      · by_cases q : j = i
        · subst q; rw [List.getElem?_set_self il] at hj; cases hj; exact .imm r
        · rw [List.getElem?_set_ne (fun z => q z.symm)] at hj
          exact (s.hold j u hj).keep (W.freeze (S := fun a => 0 < t.cnt a) (fun _ h => h) fun a ha => (s.soft a (hs a ha)).2.some) (fun a ha => s.soft a (hs a ha)) (hout j u q hj)
      · rw [own_imm rfl]; have := hcn a; omega
      · rw [own_imm rfl]; have := hcn a; have := s.one a; omega
    · exact h.elim
  · exact h.elim
/-- contents that stand -/
theorem imm_tC {e : E} {f : Env → VS.R D} {v : V} {c : C} {Q : VK} (h : tE K XR Wx (e, f) σ H Q) (hf : ∀ env, f env = .ok (.imm c) env) (hv : isVar e = none) (r : ∀ Z H, RC K Z H v c) : tC v σ H Q := by
  obtain ⟨Z, ev, s, h⟩ := h
  simp only at h
  rw [hf] at h
  refine h Z H ev (.imm v c) rfl rfl ⟨s, .imm (r Z H), W.refl, fun _ => ⟨rfl, W.refl⟩, fun a ha => ?_, fun a ha => ?_, fun j q => (by rw [hv] at q; cases q)⟩
  · rw [own_imm rfl]; omega
  · rw [own_imm rfl]; have := s.one a; omega
/-- the turn of a truth -/
theorem not_tNotV {e a : E} {fa : Env → VS.R D} (ht : triv e = false) (hv : isVar e = none) {Q : VK} (h : tE K XR Wx (e, fun env => evIf (fa env) (fun env' => .ok (.imm (.bool false)) env') fun env' => .ok (.imm (.bool true)) env') σ H Q) : tNotV (tE K XR Wx (a, fa)) σ H Q := by
  obtain ⟨Z, ev, s, h⟩ := h
  simp only at h
  refine ⟨Z, ev, s, ER.mono (evIf_ER (c := a) h) fun Z1 H1 ev1 t af q => ?_⟩
  obtain ⟨b, e1, q⟩ := q
  refine ⟨b, e1, ?_⟩
  cases b
  · simp only [Bool.false_eq_true, if_false] at q
    exact ER.after_imm q af.x ht hv (.bl true)
  · simp only [if_true] at q
    exact ER.after_imm q af.x ht hv (.bl false)
theorem and_tAndV {e a b : E} {fa fb : Env → VS.R D} (ht : triv e = false) (hv : isVar e = none) (hb : bw e = bw b) {Q : VK} (h : tE K XR Wx (e, fun env => evIf (fa env) fb fun env' => .ok (.imm (.bool false)) env') σ H Q) : tAndV (tE K XR Wx (a, fa)) (tE K XR Wx (b, fb)) σ H Q := by
  obtain ⟨Z, ev, s, h⟩ := h
  simp only at h
  refine ⟨Z, ev, s, ER.mono (evIf_ER (c := a) h) fun Z1 H1 ev1 t af q => ?_⟩
  obtain ⟨k, e1, q⟩ := q
  refine ⟨k, e1, ?_⟩
  cases k
  · simp only [Bool.false_eq_true, if_false] at q ⊢
    exact ER.after_imm q af.x ht hv (.bl false)
  · simp only [if_true] at q ⊢
    exact ⟨Z1, ev1, af.st, ER.after q af.x hb ht hv⟩
theorem or_tOrV {e a b : E} {fa fb : Env → VS.R D} (ht : triv e = false) (hv : isVar e = none) (hb : bw e = bw b) {Q : VK} (h : tE K XR Wx (e, fun env => evIf (fa env) (fun env' => .ok (.imm (.bool true)) env') fb) σ H Q) : tOrV (tE K XR Wx (a, fa)) (tE K XR Wx (b, fb)) σ H Q := by
  obtain ⟨Z, ev, s, h⟩ := h
  simp only at h
  refine ⟨Z, ev, s, ER.mono (evIf_ER (c := a) h) fun Z1 H1 ev1 t af q => ?_⟩
  obtain ⟨k, e1, q⟩ := q
  refine ⟨k, e1, ?_⟩
  cases k
  · simp only [Bool.false_eq_true, if_false] at q ⊢
    exact ⟨Z1, ev1, af.st, ER.after q af.x hb ht hv⟩
  · simp only [if_true] at q ⊢
    exact ER.after_imm q af.x ht hv (.bl true)
theorem tE_mono {p : Dn} {Q Q' : VK} (h : tE K XR Wx p σ H Q) (w : ∀ v H', Q v H' → Q' v H') : tE K XR Wx p σ H Q' := by
  obtain ⟨Z, ev, s, h⟩ := h
  exact ⟨Z, ev, s, ER.mono h fun _ _ _ _ _ q => w _ _ q⟩
theorem and_tAnd {e a b : E} {fa fb : Env → VS.R D} (ht : triv e = false) (hv : isVar e = none) (hb : bw e = bw b) {Q : Bool → Hp → Prop} (h : tB (tE K XR Wx (e, fun env => evIf (fa env) fb fun env' => .ok (.imm (.bool false)) env')) σ H Q) : tAnd (tB (tE K XR Wx (a, fa))) (tB (tE K XR Wx (b, fb))) σ H Q := by
  have h2 := and_tAndV ht hv hb h (a := a)
  simp only [tAndV] at h2
  simp only [tAnd, tB]
  refine tE_mono h2 fun v H1 q => ?_
  obtain ⟨k, rfl, q⟩ := q
  refine ⟨k, rfl, ?_⟩
  cases k
  · simp only [Bool.false_eq_true, if_false] at q ⊢
    obtain ⟨c, e, q⟩ := q
    cases e; exact q
  · exact q
theorem or_tOr {e a b : E} {fa fb : Env → VS.R D} (ht : triv e = false) (hv : isVar e = none) (hb : bw e = bw b) {Q : Bool → Hp → Prop} (h : tB (tE K XR Wx (e, fun env => evIf (fa env) (fun env' => .ok (.imm (.bool true)) env') fb)) σ H Q) : tOr (tB (tE K XR Wx (a, fa))) (tB (tE K XR Wx (b, fb))) σ H Q := by
  have h2 := or_tOrV ht hv hb h (a := a)
  simp only [tOrV] at h2
  simp only [tOr, tB]
  refine tE_mono h2 fun v H1 q => ?_
  obtain ⟨k, rfl, q⟩ := q
  refine ⟨k, rfl, ?_⟩
  cases k
  · exact q
  · simp only [if_true] at q ⊢
    obtain ⟨c, e, q⟩ := q
    cases e; exact q
theorem not_tNot {e a : E} {fa : Env → VS.R D} (ht : triv e = false) (hv : isVar e = none) {Q : Bool → Hp → Prop} (h : tB (tE K XR Wx (e, fun env => evIf (fa env) (fun env' => .ok (.imm (.bool false)) env') fun env' => .ok (.imm (.bool true)) env')) σ H Q) : tNot (tB (tE K XR Wx (a, fa))) σ H Q := by
  have h2 := not_tNotV ht hv h (a := a)
  simp only [tNotV] at h2
  simp only [tNot, tB]
  refine tE_mono h2 fun v H1 q => ?_
  obtain ⟨k, rfl, c, e, q⟩ := q
  cases e
  exact ⟨k, rfl, q⟩
theorem ite_tIf {c a b : E} {fc fa fb : Env → VS.R D} {Q : VK} (h : tE K XR Wx (.ite c a b, fun env => evIf (fc env) fa fb) σ H Q) (hab : bw a = bw b) : tIf (tB (tE K XR Wx (c, fc))) (tE K XR Wx (a, fa)) (tE K XR Wx (b, fb)) σ H Q := by
  obtain ⟨Z, ev, s, h⟩ := h
  simp only at h
  refine ⟨Z, ev, s, ER.mono (evIf_ER (c := c) h) fun Z1 H1 ev1 t af q => ?_⟩
  obtain ⟨k, e1, q⟩ := q
  refine ⟨k, e1, ?_⟩
  cases k
  · simp only [Bool.false_eq_true, if_false] at q ⊢
    exact ⟨Z1, ev1, af.st, ER.after q af.x (by simp [bw, hab]) rfl rfl⟩
  · simp only [if_true] at q ⊢
    exact ⟨Z1, ev1, af.st, ER.after q af.x (by simp [bw, hab]) rfl rfl⟩
theorem neg_tUn {a : E} {fa : Env → VS.R D} {Q : VK} (h : tE K XR Wx (.neg a, fun env => (fa env).bind fun d env' => match d with
    | .imm (.int i) => .ok (.imm (.int (-i))) env'
    | _ => .stuck) σ H Q) : tUn (rU fun i => .int (-i)) (tE K XR Wx (a, fa)) σ H Q := by
  obtain ⟨Z, ev, s, h⟩ := h
  simp only at h
  refine ⟨Z, ev, s, ?_⟩
  show ER K XR Wx a Z H σ ev (fa (erE ev)) _
  cases hf : fa (erE ev) with
  | stuck => rw [hf] at h; exact h.elim
  | exn x env' => rw [hf] at h; exact h
  | ok d env1 =>
    rw [hf] at h
    intro Z1 H1 ev1 t et ee af
    simp only [R.bind] at h
    split at h
    · rename_i i
      obtain ⟨v, rfl⟩ := er_imm et
      refine ⟨i, rc_int (holds_imm af.hd rfl), h Z1 H1 ev1 (.imm (.int (-i)) (.int (-i))) rfl ee ⟨af.st, .imm (.int _), af.w, af.tr, fun x hx => ?_, fun x hx => ?_, fun j q => (by cases q)⟩⟩
      · have := af.old x hx; rw [own_imm rfl]; omega
      · rw [own_imm rfl]; have := af.st.one x; omega
    · exact h.elim
theorem chain_tChain {o o' : CmpOp} {a b c : E} {fa fb fc : Env → VS.R D} (pa : DnOk (a, fa)) (pb : DnOk (b, fb)) {Q : VK} (h : tE K XR Wx (.chain o o' a b c, evChain o o' (a, fa) (b, fb) (c, fc)) σ H Q) :
    tChain (r2 K (cmpK o) n0) (r2 K (cmpK o') n0) (tE K XR Wx (a, fa)) (tE K XR Wx (b, fb)) (tE K XR Wx (c, fc)) σ H Q := by
  obtain ⟨Z, ev, s, h⟩ := h
  let G : V → V → Hp → Prop := fun x y H' => r2 K (cmpK o) n0 x y H' fun z H3 => ∃ k, z = .bl k ∧ (if k = true then tE K XR Wx (c, fc) σ H3 fun w' H4 => r2 K (cmpK o') n0 y w' H4 Q else Q (.bl false) H3)
  have h1 : LR K XR Wx [a, b] Z H σ ev (evL [(a, fa), (b, fb)] (erE ev)) fun Z' H' ev' ts => ∃ t1 t2, ts = [t1, t2] ∧ G t1.val t2.val H' := by
    unfold evChain at h
    simp only at h
    cases hl : evL [(a, fa), (b, fb)] (erE ev) with
    | stuck => rw [hl] at h; exact h.elim
    | exn x env' => rw [hl] at h; exact h
    | ok ds env' =>
      rw [hl] at h
      intro Z1 H1 ev1 ts e1 e2 aft
      simp only [R.bind] at h
      split at h
      · rename_i x cy
        match ts, e1, aft with
        | [t1, t2], e1, aft =>
          simp only [ers, List.cons.injEq, and_true] at e1
          obtain ⟨rfl, et2⟩ := e1
          obtain ⟨vy, rfl⟩ := er_imm et2
          have ry := holds_imm (aft.hd.all (.imm vy cy) (by simp)) rfl
          refine ⟨t1, .imm vy cy, rfl, Z1, t1, .imm vy cy, ?_⟩
          cases hk : cmpD o t1.er (.imm cy) with
          | none => rw [hk] at h; exact h.elim
          | some k =>
            rw [hk] at h
            refine ⟨.imm (.bool k), rfl, rfl, aft.st.zk, aft.hd.all _ (by simp), aft.hd.all _ (by simp), by simp [cmpK, VS.T.er, hk], fun Z2 H2 t et n => ?_⟩
            obtain ⟨vb, rfl⟩ := er_imm et
            refine ⟨k, rc_bool (holds_imm n.hd rfl), ?_⟩
            have st2 := aft.st.kept0 n.w
            have a2 : AftX K Z H σ ev Z2 H2 ev1 := aft.x.trans ⟨st2, n.w.mono fun _ z => z.elim, fun _ _ => Nat.le_refl _⟩
            have ry2 := ry.keep n.w Soft.empty
            cases k
            · simp only [Bool.false_eq_true, if_false] at h ⊢
              rw [← e2] at h
              exact ER.after_imm h a2 rfl rfl (.bl false)
            · simp only [if_true] at h ⊢
              refine ⟨Z2, ev1, st2, ?_⟩
              show ER K XR Wx c Z2 H2 σ ev1 (fc (erE ev1)) _
              rw [← e2] at h
              cases hf : fc (erE ev1) with
              | stuck => rw [hf] at h; exact h.elim
              | exn x env' => rw [hf] at h; exact XC.after h a2
              | ok d env2 =>
                rw [hf] at h
                intro Z3 H3 ev3 t3 et3 ee3 af3
                simp only [R.bind] at h
                cases hk' : cmpD o' (.imm cy) d with
                | none => rw [hk'] at h; exact h.elim
                | some k' =>
                  rw [hk'] at h
                  simp only [R.of, Option.map] at h
                  refine ⟨Z3, .imm vy cy, t3, .imm (.bool k'), rfl, rfl, af3.st.zk, .imm (ry2.keep af3.w st2.soft), af3.hd, by simp [cmpK, VS.T.er, et3, hk'], fun Z4 H4 t4 et4 n4 => ?_⟩
                  obtain ⟨v4, rfl⟩ := er_imm et4
                  rw [← ee3] at h
                  have st4 := af3.st.kept0 n4.w
                  exact ER.after_imm h ((a2.trans af3.x).trans ⟨st4, n4.w.mono fun _ z => z.elim, fun _ _ => Nat.le_refl _⟩) rfl rfl (holds_imm n4.hd rfl)
        | [], e1, aft => simp [ers] at e1
        | [_], e1, aft => simp [ers] at e1
        | _ :: _ :: _ :: _, e1, aft => simp [ers] at e1
      · exact h.elim
  have h2 := evL_tLn (ps := [(a, fa), (b, fb)]) (Q := fun xs H' => ∃ x y, xs = [x, y] ∧ G x y H') s (fun p hp => by
    simp only [List.mem_cons, List.mem_nil_iff, or_false] at hp
    rcases hp with rfl | rfl
    · exact pa
    · exact pb) h1 (fun Z' H' ev' ts q => by
      obtain ⟨t1, t2, rfl, q⟩ := q
      exact ⟨_, _, rfl, q⟩)
  have : tLn K XR Wx [(a, fa), (b, fb)] σ H (fun xs H' => ∃ x y, xs = [x, y] ∧ G x y H') := h2
  simp only [tLn, tCons, tNil] at this
  unfold tChain
  refine tE_mono this fun x H1 q => tE_mono q fun y H2 q2 => ?_
  obtain ⟨x', y', e, q2⟩ := q2
  simp only [List.cons.injEq, and_true] at e
  obtain ⟨rfl, rfl⟩ := e
  exact q2
theorem AftX.fresh {e : E} {t : VS.T} (a : AftX K Z H σ ev Z1 H1 ev1) (n : New K (fun _ => 0) Z1 H1 Z2 H2 t) (ht : triv e = false) (hv : isVar e = none) : Aft K e Z H σ ev Z2 H2 ev1 t := by
  have st2 := a.st.kept0 n.w
  refine ⟨st2, n.hd, a.w.trans n.w fun _ z => z.elim, fun q => (by rw [ht] at q; cases q), fun x hx => ?_, fun x hx => ?_, fun j q => (by rw [hv] at q; cases q)⟩
  · have h1 := a.old x hx
    have h2 := n.old x (a.w.gr' hx)
    have h3 := own_le e t x
    omega
  · have h3 := own_le e t x
    by_cases q : H1 x = none
    · have h2 := n.new x q
      have h4 : cntE x ev1 = 0 := by
        by_cases z : 0 < cntE x ev1
        · exact absurd q (a.st.soft x z).2.some
        · omega
      omega
    · have h2 := n.old x q
      have := a.st.one x
      omega
def tO (K : PySem.W.Frag) (XR : XRel) (Wx : WX') : Option Dn → TO
  | none => tNoPart
  | some q => tPart (tE K XR Wx q)
theorem hi_tO {e : E} {t1 : VS.T} {l : Option Int} {hi : Option Dn} {Q : VK} (a : AftX K Z H σ ev Z1 H1 ev1) (hd : Holds K Z1 H1 t1) (ht : triv e = false) (hv : isVar e = none)
    (h : ER K XR Wx e Z H σ ev (evHi t1.er l hi (erE ev1)) fun _ H' _ t => Q t.val H') : tO K XR Wx hi σ H1 fun u H3 => rSl K t1.val l u H3 Q := by
  cases hi with
  | none =>
    simp only [evHi] at h
    show rSl K t1.val l none H1 Q
    cases hk : sliceD t1.er l none with
    | none => rw [hk] at h; exact h.elim
    | some d =>
      rw [hk] at h
      exact ⟨Z1, t1, d, rfl, a.st.zk, hd, hk, fun Z2 H2 t et n => h Z2 H2 ev1 t et rfl (a.fresh n ht hv)⟩
  | some q =>
    simp only [evHi] at h
    split at h
    · rename_i hc
      refine ⟨Z1, ev1, a.st, ?_⟩
      show ER K XR Wx q.1 Z1 H1 σ ev1 (q.2 (erE ev1)) _
      cases hf : q.2 (erE ev1) with
      | stuck => rw [hf] at h; exact h.elim
      | exn x env' => rw [hf] at h; exact XC.after h a
      | ok d env2 =>
        rw [hf] at h
        intro Z3 H3 ev3 t3 et3 ee3 af3
        simp only [R.bind] at h
        split at h
        · rename_i j
          obtain ⟨v3, rfl⟩ := er_imm et3
          refine ⟨j, rc_int (holds_imm af3.hd rfl), ?_⟩
          have hd3 : Holds K Z3 H3 t1 := by
            simp only [Bool.or_eq_true] at hc
            rcases hc with hc | hc
            · obtain ⟨v, c, rfl⟩ := isImm_er hc
              exact .imm ((holds_imm hd rfl).keep af3.w a.st.soft)
            · exact hd.keep0 (af3.tr hc).2
          cases hk : sliceD t1.er l (some j) with
          | none => rw [hk] at h; exact h.elim
          | some d =>
            rw [hk, ← ee3] at h
            exact ⟨Z3, t1, d, rfl, af3.st.zk, hd3, hk, fun Z2 H2 t et n => h Z2 H2 ev3 t et rfl ((a.trans af3.x).fresh n ht hv)⟩
        · exact h.elim
    · exact h.elim
theorem slc_tSl {a : E} {lo hi : Option E} {p : Dn} {pl ph : Option Dn} (pa : DnOk p) (pq : ∀ q, pl = some q → DnOk q) {Q : VK} (h : tE K XR Wx (.slc a lo hi, evSlc p pl ph) σ H Q) :
    tSl (rSl K) (tE K XR Wx p) (tO K XR Wx pl) (tO K XR Wx ph) σ H Q := by
  obtain ⟨Z, ev, s, h⟩ := h
  simp only at h
  cases pl with
  | none =>
    simp only [evSlc] at h
    have h1 : LR K XR Wx [p.1] Z H σ ev (evL [p] (erE ev)) fun Z' H' ev' ts => ∃ t1, ts = [t1] ∧ tO K XR Wx ph σ H' fun u H3 => rSl K t1.val none u H3 Q := by
      cases hl : evL [p] (erE ev) with
      | stuck => rw [hl] at h; exact h.elim
      | exn x env' => rw [hl] at h; exact h
      | ok ds env' =>
        rw [hl] at h
        intro Z1 H1 ev1 ts e1 e2 aft
        simp only [R.bind] at h
        split at h
        · obtain ⟨t1, rfl, et⟩ := ers_one e1
          subst et
          rw [← e2] at h
          exact ⟨t1, rfl, hi_tO aft.x (aft.hd.all _ (by simp)) rfl rfl h⟩
        · exact h.elim
    have h2 := evL_tLn (ps := [p]) (Q := fun xs H' => ∃ x, xs = [x] ∧ tO K XR Wx ph σ H' fun u H3 => rSl K x none u H3 Q) s (fun q hq => by
      simp only [List.mem_cons, List.mem_nil_iff, or_false] at hq
      rw [hq]; exact pa) h1 (fun Z' H' ev' ts q => by
      obtain ⟨t1, rfl, q⟩ := q
      exact ⟨_, rfl, q⟩)
    simp only [tLn, tCons, tNil] at h2
    refine tE_mono h2 fun x H1 q => ?_
    obtain ⟨x', e, q⟩ := q
    simp only [List.cons.injEq, and_true] at e
    subst e
    exact q
  | some pl =>
    simp only [evSlc] at h
    have h1 : LR K XR Wx [p.1, pl.1] Z H σ ev (evL [p, pl] (erE ev)) fun Z' H' ev' ts => ∃ t1 i, vals ts = [t1, V.int i] ∧ tO K XR Wx ph σ H' fun u H3 => rSl K t1 (some i) u H3 Q := by
      cases hl : evL [p, pl] (erE ev) with
      | stuck => rw [hl] at h; exact h.elim
      | exn x env' => rw [hl] at h; exact h
      | ok ds env' =>
        rw [hl] at h
        intro Z1 H1 ev1 ts e1 e2 aft
        simp only [R.bind] at h
        split at h
        · obtain ⟨t1, t2, rfl, et, et2⟩ := ers_two e1
          subst et
          rw [← e2] at h
          have := rc_int (holds_imm (aft.hd.all t2 (by simp)) et2)
          exact ⟨t1.val, _, by simp [this], hi_tO aft.x (aft.hd.all _ (by simp)) rfl rfl h⟩
        · exact h.elim
    have h2 := evL_tLn (ps := [p, pl]) (Q := fun xs H' => ∃ x i, xs = [x, V.int i] ∧ tO K XR Wx ph σ H' fun u H3 => rSl K x (some i) u H3 Q) s (fun q hq => by
      simp only [List.mem_cons, List.mem_nil_iff, or_false] at hq
      rcases hq with rfl | rfl
      · exact pa
      · exact pq _ rfl) h1 (fun Z' H' ev' ts q => by
      obtain ⟨t1, i, e, q⟩ := q
      exact ⟨_, _, e, q⟩)
    simp only [tLn, tCons, tNil] at h2
    simp only [tSl]
    refine tE_mono h2 fun x H1 q => ?_
    rw [show tO K XR Wx (some pl) = tPart (tE K XR Wx pl) from rfl]
    simp only [tPart]
    refine tE_mono q fun y H2 q2 => ?_
    obtain ⟨x', i, e, q2⟩ := q2
    simp only [List.cons.injEq, and_true] at e
    obtain ⟨rfl, rfl⟩ := e
    exact ⟨i, rfl, q2⟩
end
end VS

/-! VS12: the program's expressions against the small syntax. -/
set_option linter.all false
set_option autoImplicit false
set_option maxRecDepth 100000
set_option maxHeartbeats 4000000
namespace VS
open PySem PySem.Spec PyProof.Rows L2
/-- a def's names: slots, functions by number (with how many parameters), constants -/
structure Gam where
  N : List Str
  fns : List (Str × Nat)
  gcs : List Str
def all2 {α β : Type} (p : α → β → Bool) : List α → List β → Bool
  | [], [] => true
  | a :: as, b :: bs => p a b && all2 p as bs
  | _, _ => false
def opt2 {α β : Type} (p : α → β → Bool) : Option α → Option β → Bool
  | none, none => true
  | some a, some b => p a b
  | _, _ => false
def vis (sc : Scope) (x : Str) : Bool := match sc.names.lookup x with
  | some .local => true
  | some .cell => true
  | some .free => true
  | _ => false
def loc (sc : Scope) (x : Str) : Bool := match sc.names.lookup x with
  | some .local => true
  | some .cell => true
  | _ => false
def gl (sc : Scope) (x : Str) : Bool := match sc.names.lookup x with
  | some .globalImplicit => true
  | _ => false
def nodb (x : Str) : Bool := !(x == ("__debug__" : Str)) && !(x == ("__classdict__" : Str)) && !(x == ("__name__" : Str))
def nm (Γ : Gam) (sc : Scope) (x : Str) (i : Nat) : Bool := decide (Γ.N[i]? = some x) && vis sc x && nodb x
def isIf : Expr → Bool
  | .IfExp .. => true
  | _ => false
def isBo : Expr → Bool
  | .BoolOp .. => true
  | _ => false
def isStar : Expr → Bool
  | .Starred .. => true
  | _ => false
def plains (es : List Expr) : Bool := es.all fun e => !isStar e
def isSlice : Expr → Bool
  | .Slice .. => true
  | _ => false
def isSet : Expr → Bool
  | .Set .. => true
  | _ => false
def biName : Bi → Str
  | .len => "len"
  | .int_ => "int"
  | .max_ => "max"
  | .min_ => "min"
  | .repr_ => "repr"
  | .tuple_ => "tuple"
  | .list_ => "list"
  | .all_ => "all"
  | .any_ => "any"
  | .sum_ => "sum"
  | .str_ => "str"
  | .dict_ => "dict"
  | .sorted_ => "sorted"
  | .set_ => "set"
def muName : Mu → Str
  | .append => "append"
  | .insert => "insert"
  | .pop => "pop"
  | .popAt => "pop"
  | .reverse => "reverse"
  | .clear => "clear"
  | .extend => "extend"
  | .remove => "remove"
def mTg (Γ : Gam) : Nat → Scope → Expr → Tg → Bool
  | 0, _, _, _ => false
  | n + 1, sc, e, t => match e, t with
    | .Name x _, .v i => decide (Γ.N[i]? = some x) && loc sc x
    | .Tuple es _ _, .t ts => plains es && all2 (mTg Γ n sc) es ts
    | _, _ => false
def isTup : Expr → Bool
  | .Tuple .. => true
  | _ => false
def mI (p : Expr → E → Bool) (sc : Scope) (tg iter : Expr) (it : It) : Bool := match iter, it with
  | .Call (.Name x _) es [] _, .range es' => decide (x = ("range" : Str)) && gl sc x && plains es && (es.length == 1 || es.length == 2) && all2 p es es'
  | .Call (.Name x _) [a, b, c] [] _, .down es' => decide (x = ("range" : Str)) && gl sc x && plains [a, b, c] && all2 p [a, b, c] es'
  | .Call (.Name x _) [a, b] [] _, .zip a' b' => decide (x = ("zip" : Str)) && gl sc x && plains [a, b] && isTup tg && p a a' && p b b'
  | e, .seq e' => p e e'
  | _, _ => false
def mC (p : Expr → E → Bool) (ifs : List Expr) (c : Option E) : Bool := match ifs, c with
  | [], none => true
  | [e], some e' => !isIf e && p e e'
  | _, _ => false
def ownOf (Γ : Gam) (ow : List Nat) : List (Str × Nat) := ow.filterMap fun i => (Γ.N[i]?).map fun x => (x, i)
def mLc (Γ : Gam) (p : Scope → Expr → E → Bool) (mt : Scope → Expr → Tg → Bool) (sc : Scope) (elt : Expr) (gens : List Comprehension) (scope : Scope) (elt' : E) (tg' : Tg) (it' : It) (c' : Option E) (ow : List Nat) : Bool := match gens with
  | [⟨tg, iter, ifs, 0⟩] => blkC Γ.N sc scope (ownOf Γ ow) && decide ((ownOf Γ ow).map (·.2) = ow) && (tgSlots tg').all (fun i => ow.contains i) && !isSet iter && mI (p sc) sc tg iter it' && mt scope tg tg' && mC (p scope) ifs c' && p scope elt elt'
  | _ => false
def mE (Γ : Gam) : Nat → Scope → Expr → E → Bool
  | 0, _, _, _ => false
  | n + 1, sc, e, e' => match e, e' with
    | .BoolOp _ [a] _, e' => !isIf a && mE Γ n sc a e'
    | .BoolOp .And (a :: b :: rest) pos, .and a' b' => !isIf a && mE Γ n sc a a' && mE Γ n sc (.BoolOp .And (b :: rest) pos) b'
    | .BoolOp .Or (a :: b :: rest) pos, .or a' b' => !isIf a && mE Γ n sc a a' && mE Γ n sc (.BoolOp .Or (b :: rest) pos) b'
    | .Constant .none _ _, .non => true
    | .Constant (.bool b) _ _, .bl b' => b == b'
    | .Constant (.int i) _ _, .int j => i == j
    | .Constant (.str s) _ _, .str t => decide (s = t)
    | .Name x _, .var i => nm Γ sc x i
    | .Name x _, .mv i => nm Γ sc x i
    | .Name x _, .fz i => nm Γ sc x i
    | .Name x _, .gc g => decide (Γ.gcs[g]? = some x) && gl sc x && nodb x
    | .BinOp a o b _, .bin o' a' b' => decide (o = o') && mE Γ n sc a a' && mE Γ n sc b b'
    | .UnaryOp .USub a _, .neg a' => mE Γ n sc a a'
    | .UnaryOp .Not a _, .not a' => !isIf a && mE Γ n sc a a'
    | .Compare a [o] [b] _, .cmp o' a' b' => decide (o = o') && !behindInMarks o b && mE Γ n sc a a' && mE Γ n sc b b'
    | .Compare a [o, p] [b, c] _, .chain o' p' a' b' c' => decide (o = o') && decide (p = p') && !lastMarks [o, p] [b, c] && mE Γ n sc a a' && mE Γ n sc b b' && mE Γ n sc c c'
    | .IfExp c a b _, .ite c' a' b' => !isIf c && (bw a' == bw b') && mE Γ n sc c c' && mE Γ n sc a a' && mE Γ n sc b b'
    | .Tuple es _ _, .tup es' => plains es && all2 (mE Γ n sc) es es'
    | .List es _, .lst es' => plains es && all2 (mE Γ n sc) es es'
    | .Subscript a (.Slice lo hi none _) _, .slc a' lo' hi' => mE Γ n sc a a' && opt2 (mE Γ n sc) lo lo' && opt2 (mE Γ n sc) hi hi'
    | .Subscript a i _, .idx a' i' => !isSlice i && mE Γ n sc a a' && mE Γ n sc i i'
    | .Call (.Name x _) (a :: es) [] _, .bi b es' => decide (x = biName b) && gl sc x && plains (a :: es) && all2 (mE Γ n sc) (a :: es) es'
    | .Call (.Name x _) (a :: es) [] _, .call f es' => decide (Γ.fns[f]? = some (x, (a :: es).length)) && gl sc x && nodb x && plains (a :: es) && all2 (mE Γ n sc) (a :: es) es'
    | .Call (.Attribute (.Name r _) name p) es [] q, .mut m i [] es' => nm Γ sc r i && decide (name = muName m) && (p.endLine == q.line) && plains es && decide (es.length < 30) && all2 (mE Γ n sc) es es'
    | .ListComp elt gens scope _, .comp elt' tg' it' c' ow => mLc Γ (mE Γ n) (mTg Γ n) sc elt gens scope elt' tg' it' c' ow
    | _, _ => false
end VS

/-! VS13: what is matched is read as the evaluator says. -/
set_option linter.all false
set_option autoImplicit false
set_option maxRecDepth 100000
set_option maxHeartbeats 4000000
namespace VS
open PySem PySem.Spec PyProof.Rows L2
structure CxOk (Γ : Gam) (Y : Ctx) (XR : XRel) (Wx : WX') (X : Cx) (sc : Scope) : Prop where
  hN : X.N = Γ.N
  nd : Γ.N.Nodup
  calm : X.calm = true
  gd : X.A.guards = some []
  un : X.A.units + 100 < cLine
  rel : ∀ (x : Str) (k : NameKind), sc.names.lookup x = some k → X.env.scope.names.lookup x = some k ∨ (k = .free ∧ X.env.scope.names.lookup x = some .cell)
  cel : ∀ (x : Str), sc.names.lookup x = some .cell → X.fn x = true
  bi : ∀ b, X.mg (biName b) = none
  rg : X.mg "range" = none
  zp : X.mg "zip" = none
  fns : ∀ (f : Nat) (x : Str) (np : Nat), Γ.fns[f]? = some (x, np) → ∃ k a fd ps, FnG X.prog X.w X.K X.mg X.base k a fd ps (spF X.K XR (Y.call f) (Y.rb f) np) ∧ Room k X.A ∧ X.mg x = some (.ref a) ∧ PySem.W.keepIn X.K (.ref a) = true ∧ L2.Binds X.K fd ps []
  gcs : ∀ (g : Nat) (x : Str), Γ.gcs[g]? = some x → ∃ v u c, X.mg x = some u ∧ L2.RelV v u ∧ Y.consts[g]? = some c ∧ ∀ Z H, RC X.K Z H v c
  tk : L2.Takes X Wx
  po : PassesOwn (model X.prog X.w) X.A X.env X.xe
structure Snd (X : Cx) (XR : XRel) (Wx : WX') (e : Expr) (p : Dn) : Prop where
  pe : PE X e (tE X.K XR Wx p)
  pt : isIf e = false → PT X e (tB (tE X.K XR Wx p))
  pw : isBo e = true → PW X e (tB (tE X.K XR Wx p))
section
variable {Γ : Gam} {Y : Ctx} {XR : XRel} {Wx : WX'} {X : Cx} {sc : Scope} {n : Nat} {e : Expr} {e' : E}
theorem band {a b : Bool} (h : (a && b) = true) : a = true ∧ b = true := by simpa using h
theorem nodb_of {x : Str} (h : nodb x = true) : (x == ("__debug__" : Str)) = false ∧ (x == ("__classdict__" : Str)) = false ∧ x ≠ ("__name__" : Str) := by
  simp only [nodb, Bool.and_eq_true, Bool.not_eq_true'] at h
  exact ⟨h.1.1, h.1.2, fun q => by simp [q] at h⟩
theorem vis_of (c : CxOk Γ Y XR Wx X sc) {x : Str} (h : vis sc x = true) : Vis X.env.scope x := by
  unfold vis at h
  split at h
  · rename_i q
    rcases c.rel _ _ q with z | ⟨z, _⟩
    · exact .inl z
    · cases z
  · rename_i q
    rcases c.rel _ _ q with z | ⟨z, _⟩
    · exact .inr (.inl z)
    · cases z
  · rename_i q
    rcases c.rel _ _ q with z | ⟨_, z⟩
    · exact .inr (.inr z)
    · exact .inr (.inl z)
  · cases h
theorem gl_of (c : CxOk Γ Y XR Wx X sc) {x : Str} (h : gl sc x = true) : Gl X x := by
  unfold gl at h
  split at h
  · rename_i q
    rcases c.rel _ _ q with z | ⟨z, _⟩
    · exact z
    · cases z
  · cases h
theorem star_cons {e : Expr} {es : List Expr} {env : PySem.Env} (h : isStar e = false) : starEach (e :: es) env = (false, eval e env) :: starEach es env := by
  cases e <;> first | rfl | simp [isStar] at h
theorem star_any {pos : Pos} {env : PySem.Env} : ∀ {es : List Expr}, plains es = true → (backTo pos (starEach es env)).any (·.1) = false
  | [], _ => rfl
  | e :: es, h => by
    simp only [plains, List.all_cons, Bool.and_eq_true, Bool.not_eq_true'] at h
    have ih := star_any (pos := pos) (env := env) (es := es) (by simpa [plains] using h.2)
    rw [star_cons h.1]
    simpa [backTo] using ih
theorem star_all {pos : Pos} {env : PySem.Env} : ∀ {es : List Expr}, plains es = true → (backTo pos (starEach es env)).all (fun x => !x.1) = true
  | [], _ => rfl
  | e :: es, h => by
    simp only [plains, List.all_cons, Bool.and_eq_true, Bool.not_eq_true'] at h
    have ih := star_all (pos := pos) (env := env) (es := es) (by simpa [plains] using h.2)
    rw [star_cons h.1]
    simpa [backTo] using ih
theorem plains_cons {e : Expr} {es : List Expr} (h : plains (e :: es) = true) : isStar e = false ∧ plains es = true := by
  simpa [plains] using h
theorem evs_fst : ∀ es : List E, (evs Y es).map (·.1) = es
  | [] => by rw [evs]; rfl
  | e :: es => by rw [evs, List.map_cons, evs_fst es]
theorem evE_ok (e : E) : DnOk (e, evE Y e) := fun i h env => by
  have := isVar_some h
  simp only at this
  subst this
  simp only [evE]
theorem evs_ok : ∀ (es : List E), ∀ p ∈ evs Y es, DnOk p
  | [], p, h => by rw [evs] at h; cases h
  | e :: es, p, h => by
    rw [evs] at h
    rcases List.mem_cons.mp h with q | q
    · rw [q]; exact evE_ok e
    · exact evs_ok es p q
theorem pa_all {p : Expr → E → Bool} (hp : ∀ e e', p e e' = true → PE X e (tE X.K XR Wx (e', evE Y e'))) : ∀ {es : List Expr} {es' : List E}, plains es = true → all2 p es es' = true → PA X es (tLn X.K XR Wx (evs Y es'))
  | [], [], _, _ => by rw [evs]; exact pa_nil
  | [], _ :: _, _, h => by simp [all2] at h
  | _ :: _, [], _, h => by simp [all2] at h
  | e :: es, e' :: es', h1, h => by
    obtain ⟨g1, g2⟩ := band (by simpa only [all2] using h)
    obtain ⟨k1, k2⟩ := plains_cons h1
    rw [evs]
    exact pa_cons (hp e e' g1) (pa_all hp k2 g2) (star_cons k1)
theorem all2_len {α β : Type} {p : α → β → Bool} : ∀ {as : List α} {bs : List β}, all2 p as bs = true → as.length = bs.length
  | [], [], _ => rfl
  | [], _ :: _, h => by simp [all2] at h
  | _ :: _, [], h => by simp [all2] at h
  | a :: as, b :: bs, h => by
    obtain ⟨_, h2⟩ := band (by simpa only [all2] using h)
    simp [all2_len h2]
theorem evs_len : ∀ es : List E, (evs Y es).length = es.length
  | [] => by rw [evs]; rfl
  | e :: es => by rw [evs, List.length_cons, evs_len es, List.length_cons]
/-- a test by its value -/
theorem Snd.val {p : Dn} (h : PE X e (tE X.K XR Wx p)) (ht : ∀ whole, PySem.isTrue e X.env whole = (do let v ← whole; standAt e.pos; holding [v] (truthy v))) (hb : isBo e = false) : Snd X XR Wx e p :=
  ⟨h, fun _ => pt_val h ht, fun q => by rw [hb] at q; cases q⟩
/-! targets -/
mutual
def gOf (K : PySem.W.Frag) : Tg → TG
  | .v i => gName i
  | .t ts => gTup K ts.length (gsOf K ts)
def gsOf (K : PySem.W.Frag) : List Tg → TGs
  | [] => gNil
  | t :: ts => gCons (gOf K t) (gsOf K ts)
end
mutual
theorem gok_of (K : PySem.W.Frag) : ∀ t : Tg, GOk K t (gOf K t)
  | .v i => by rw [gOf]; exact gok_name
  | .t ts => by rw [gOf]; exact gok_tup (gsok_of K ts)
theorem gsok_of (K : PySem.W.Frag) : ∀ ts : List Tg, GsOk K ts (gsOf K ts)
  | [] => by rw [gsOf]; exact gsok_nil
  | t :: ts => by rw [gsOf]; exact gsok_cons (gok_of K t) (gsok_of K ts)
end
theorem asg_cons {e : Expr} {es : List Expr} {env : PySem.Env} (h : isStar e = false) : assignEach (e :: es) env = (false, assign e env) :: assignEach es env := by
  cases e <;> first | rfl | simp [isStar] at h
theorem asg_len {env : PySem.Env} : ∀ {es : List Expr}, plains es = true → (assignEach es env).length = es.length
  | [], _ => rfl
  | e :: es, h => by
    obtain ⟨k1, k2⟩ := plains_cons h
    rw [asg_cons k1, List.length_cons, List.length_cons, asg_len k2]
theorem asg_find {env : PySem.Env} : ∀ {es : List Expr}, plains es = true → (assignEach es env).findIdx? (·.1) = none
  | [], _ => rfl
  | e :: es, h => by
    obtain ⟨k1, k2⟩ := plains_cons h
    rw [asg_cons k1, List.findIdx?_cons, asg_find k2]; rfl
theorem pgs_all {p : Expr → Tg → Bool} (hp : ∀ e t, p e t = true → PG X e (gOf X.K t)) : ∀ {es : List Expr} {ts : List Tg}, plains es = true → all2 p es ts = true → PGs X es (gsOf X.K ts)
  | [], [], _, _ => by rw [gsOf]; exact pgs_nil
  | [], _ :: _, _, h => by simp [all2] at h
  | _ :: _, [], _, h => by simp [all2] at h
  | e :: es, t :: ts, h1, h => by
    obtain ⟨g1, g2⟩ := band (by simpa only [all2] using h)
    obtain ⟨k1, k2⟩ := plains_cons h1
    rw [gsOf]
    exact pgs_cons (hp e t g1) (pgs_all hp k2 g2) (by rw [asg_cons k1]; rfl)
theorem pg_of (c : CxOk Γ Y XR Wx X sc) : ∀ {n : Nat} {tg : Expr} {t : Tg}, mTg Γ n sc tg t = true → PG X tg (gOf X.K t)
  | 0, _, _, h => by simp [mTg] at h
  | n + 1, tg, t, h => by
    unfold mTg at h
    split at h
    · obtain ⟨h1, h2⟩ := band h
      have h1 := of_decide_eq_true h1
      rw [gOf]
      unfold loc at h2
      split at h2
      · rename_i q
        rcases c.rel _ _ q with z | ⟨z, _⟩
        · exact pg_name (by rw [c.hN]; exact c.nd) (by rw [c.hN]; exact h1) (.inl z) (.inr z)
        · cases z
      · rename_i q
        rcases c.rel _ _ q with z | ⟨z, _⟩
        · exact pg_name (by rw [c.hN]; exact c.nd) (by rw [c.hN]; exact h1) (.inr z) (.inl (c.cel _ q))
        · cases z
      · cases h2
    · obtain ⟨h1, h2⟩ := band h
      rw [gOf]
      refine pg_tup c.calm (pgs_all (fun e t q => pg_of c q) h1 h2) ?_ (asg_find h1)
      rw [asg_len h1, all2_len h2]
    · cases h
end
def rlb (env : PySem.Env) : Str × NameKind → Str × NameKind := fun (n, k) => if (k == NameKind.free && env.scope.kind == ScopeKind.function && env.kindOf n == some NameKind.cell) then (n, NameKind.cell) else (n, k)
theorem relabel_lookup {env : PySem.Env} : ∀ {names : List (Str × NameKind)} {x : Str} {k : NameKind}, names.lookup x = some k →
    (names.map (rlb env)).lookup x = some k ∨ (k = .free ∧ (names.map (rlb env)).lookup x = some .cell)
  | [], _, _, h => by simp at h
  | (n, k) :: r, x, k', h => by
    have ih := @relabel_lookup env r x k'
    rw [List.map_cons]
    by_cases hc : (k == NameKind.free && env.scope.kind == ScopeKind.function && env.kindOf n == some NameKind.cell) = true
    · rw [show rlb env (n, k) = (n, .cell) from if_pos hc]
      cases hx : x == n with
      | true =>
        simp only [List.lookup_cons, hx, Option.some.injEq] at h ⊢
        subst h
        refine .inr ⟨?_, trivial⟩
        simp only [Bool.and_eq_true, beq_iff_eq] at hc
        exact hc.1.1
      | false =>
        simp only [List.lookup_cons, hx] at h ⊢
        exact ih h
    · rw [show rlb env (n, k) = (n, k) from if_neg hc]
      cases hx : x == n with
      | true =>
        simp only [List.lookup_cons, hx, Option.some.injEq] at h ⊢
        exact .inl h
      | false =>
        simp only [List.lookup_cons, hx] at h ⊢
        exact ih h
theorem CxOk.blk {Γ : Gam} {Y : Ctx} {XR : XRel} {Wx : WX'} {X : Cx} {sc : Scope} (c : CxOk Γ Y XR Wx X sc) (s : Shared) (H : Hp) (scope : Scope) (cl : List (Str × Addr)) (C : Addr) (fp : List Addr) :
    CxOk Γ Y XR wF (X.blk s H scope (compEnvC scope cl C X.env) fp) scope where
  hN := c.hN
  nd := c.nd
  calm := c.calm
  gd := c.gd
  un := c.un
  rel := fun x k h => relabel_lookup h
  cel := fun x h => by show (scope.names.lookup x == some .cell) = true; rw [h]; rfl
  bi := c.bi
  rg := c.rg
  zp := c.zp
  fns := c.fns
  gcs := c.gcs
  tk := fun u s' ⟨_, _, _, _, _, _, _, _, _, _, _, _, _, _, _, _, w⟩ => w.elim
  po := PassesOwn.never
end VS

/-! VS14: what is matched is read as the evaluator says: expressions. -/
set_option linter.all false
set_option autoImplicit false
set_option maxRecDepth 100000
set_option maxHeartbeats 8000000
namespace VS
open PySem PySem.Spec PyProof.Rows L2
open RZ (ItzT iZipA pi_zipA)
theorem pt_if {X : Cx} {c a b : Expr} {pos : Pos} {tA ta tb : TT} (hc : PT X c tA) (ha : PT X a ta) (hb : PT X b tb) : PT X (.IfExp c a b pos) (fun σ H Q => tA σ H fun k H1 => if k = true then ta σ H1 Q else tb σ H1 Q) := by
  refine ⟨fun pins s σ H Q I h => ?_⟩
  rw [PySem.isTrue]
  refine wpAny_bind (thn (hc.run pins s σ H _ I h) fun d s1 ⟨H1, I1, q1⟩ => ?_)
  cases d with
  | true => exact ha.run pins s1 σ H1 Q I1 q1
  | false => exact hb.run pins s1 σ H1 Q I1 q1
section
variable {Γ : Gam} {Y : Ctx} {XR : XRel} {Wx : WX'} {X : Cx} {sc : Scope} {n : Nat} {e : Expr} {e' : E}
theorem nm_of (c : CxOk Γ Y XR Wx X sc) {x : Str} {i : Nat} {pos : Pos} (h : nm Γ sc x i = true) : PE X (.Name x pos) (tVar i) := by
  obtain ⟨h1, h3⟩ := band h
  obtain ⟨h1, h2⟩ := band h1
  obtain ⟨d1, d2, _⟩ := nodb_of h3
  exact pe_var (by rw [c.hN]; exact of_decide_eq_true h1) (vis_of c h2) d1 d2
theorem pi_of (c : CxOk Γ Y XR Wx X sc) {p : Expr → E → Bool} (hp : ∀ e e', p e e' = true → PE X e (tE X.K XR Wx (e', evE Y e'))) {tg iter : Expr} {it : It} {A : List Nat} (h : mI p sc tg iter it = true) : PI X tg iter (tI X.K XR Wx A (evI Y it A)) := by
  unfold mI at h
  split at h
  · rename_i x p1 es p2 es'
    simp only [Bool.and_eq_true, Bool.or_eq_true, beq_iff_eq, decide_eq_true_eq] at h
    obtain ⟨⟨⟨⟨rfl, h2⟩, h3⟩, h4⟩, h5⟩ := h
    have pa := pa_all hp h3 h5
    rcases h4 with h4 | h4
    · match es, es', h4, h5, h3, pa with
      | [a], [a'], _, _, h3, pa =>
        refine PI.imp (pi_range1 (gl_of c h2) c.rg pa (by rw [star_cons (plains_cons h3).1]; rfl)) fun σ H R q => ?_
        rw [evI] at q
        have q2 := range_tLn (evs_ok [a']) q
        simp only [evs, tLn, tCons, tNil] at q2
        show tLn X.K XR Wx (evs Y [a']) σ H _
        simp only [evs, tLn, tCons, tNil]
        refine tE_mono q2 fun v H1 q => ?_
        rcases q with ⟨m, e1, q1, q2, q3⟩ | ⟨m, k, e1, _⟩
        · exact ⟨m, e1, q1, q2, q3⟩
        · simp at e1
      | [a], [], _, h5, _, _ => simp [all2] at h5
      | [a], _ :: _ :: _, _, h5, _, _ => simp [all2] at h5
    · match es, es', h4, h5, h3, pa with
      | [a, b], [a', b'], _, _, h3, pa =>
        refine PI.imp (pi_range2 (gl_of c h2) c.rg pa (by rw [star_cons (plains_cons h3).1, star_cons (plains_cons (plains_cons h3).2).1]; rfl) (by rw [star_cons (plains_cons (plains_cons h3).2).1]; rfl)) fun σ H R q => ?_
        rw [evI] at q
        have q2 := range_tLn (evs_ok [a', b']) q
        simp only [evs, tLn, tCons, tNil] at q2
        show tLn X.K XR Wx (evs Y [a', b']) σ H _
        simp only [evs, tLn, tCons, tNil]
        refine tE_mono q2 fun v H1 q => tE_mono q fun v2 H2 q => ?_
        rcases q with ⟨m, e1, _⟩ | ⟨m, k, e1, q1, q3⟩
        · simp at e1
        · exact ⟨m, k, e1, q1, q3⟩
      | [a, b], [], _, h5, _, _ => simp [all2] at h5
      | [a, b], [_], _, h5, _, _ => simp [all2] at h5
      | [a, b], _ :: _ :: _ :: _, _, h5, _, _ => simp [all2] at h5
  · rename_i x p1 a b cc p2 es'
    simp only [Bool.and_eq_true, decide_eq_true_eq] at h
    obtain ⟨⟨⟨rfl, h2⟩, h3⟩, h5⟩ := h
    have pa := pa_all hp h3 h5
    match es', h5, pa with
    | [a', b', c'], h5, pa =>
      refine PI.imp (pi_range3 (gl_of c h2) c.rg pa (by rw [star_cons (plains_cons h3).1]) (star_any (plains_cons h3).2)) fun σ H R q => ?_
      rw [evI] at q
      have q2 := down_tLn (evs_ok [a', b', c']) q
      exact q2
    | [], h5, _ => simp [all2] at h5
    | [_], h5, _ => simp [all2] at h5
    | [_, _], h5, _ => simp [all2] at h5
    | _ :: _ :: _ :: _ :: _, h5, _ => simp [all2] at h5
  · rename_i x p1 a b p2 a' b'
    simp only [Bool.and_eq_true, decide_eq_true_eq] at h
    obtain ⟨⟨⟨⟨⟨rfl, h2⟩, h3⟩, h4⟩, h5⟩, h6⟩ := h
    obtain ⟨elts, kk, tpos, rfl⟩ : ∃ elts kk tpos, tg = .Tuple elts kk tpos := by
      cases tg <;> simp [isTup] at h4
      exact ⟨_, _, _, rfl⟩
    refine PI.imp (pi_zipA (gl_of c h2) c.zp (pa_cons (hp _ _ h5) (pa_cons (hp _ _ h6) pa_nil (star_cons (plains_cons (plains_cons h3).2).1)) (star_cons (plains_cons h3).1)) (star_cons (plains_cons h3).1) (star_any (plains_cons h3).2)) fun σ H R q => ?_
    rw [evI] at q
    exact zip_iZipA (evE_ok _) (evE_ok _) q
  · rw [evI]
    exact pi_seq (hp _ _ h)
  · cases h
theorem po_of {p : Expr → E → Bool} (hp : ∀ e e', p e e' = true → PE X e (tE X.K XR Wx (e', evE Y e'))) {l : Option Expr} {l' : Option E} (h : opt2 p l l' = true) : PO X l (tO X.K XR Wx (evo Y l')) := by
  cases l <;> cases l' <;> simp [opt2] at h
  · rw [evo]; exact po_none
  · rw [evo]; exact po_some (hp _ _ h)
theorem evo_ok {l : Option E} : ∀ q, evo Y l = some q → DnOk q := fun q h => by
  cases l with
  | none => rw [evo] at h; cases h
  | some e => rw [evo] at h; cases h; exact evE_ok e
theorem pl_of {i : Expr} (h : isSlice i = false) : PlainIx i := by
  cases i <;> first | (intro o k; rfl) | simp [isSlice] at h
theorem fold_of {i : Expr} {env : PySem.Env} (h : isSet i = false) : ∀ x, foldedSetIterable i env x = pure x := by
  cases i <;> first | (intro o; rfl) | simp [isSet] at h
theorem bi_call (c : CxOk Γ Y XR Wx X sc) {b : Bi} {p pos : Pos} {e : Expr} {es : List Expr} {t : TA} (hg : gl sc (biName b) = true) (h : plains (e :: es) = true) (pa : PA X (e :: es) t) : PE X (.Call (.Name (biName b) p) (e :: es) [] pos) (tCB (rN X.K (biD b)) t) := by
  have cb := call_bi c.calm c.gd (by have := c.un; omega) b
  have g := gl_of c hg
  have m := c.bi b
  have s1 := star_cons (env := X.env) (es := es) (plains_cons h).1
  have s2 := star_any (pos := pos) (env := X.env) (plains_cons h).2
  cases b <;> first
    | exact pe_callB cb g m rfl pa (by decide) (by decide) s1 s2
    | exact pe_callTy cb g m rfl pa (by decide) (by decide) s1 s2
theorem mu_call {m : Mu} {o : Expr} {to : TE} {apos cpos : Pos} {es : List Expr} {t : TA} (ho : PE X o to) (pa : PA X es t) (h : plains es = true) (hz : es.length < 30) (hl : (apos.endLine == cpos.line) = true)
    (hb : ∀ (name : Str), attributeBase o name X.env (eval o X.env) = eval o X.env) (hn : es = [] → t = tNil) : PE X (.Call (.Attribute o (muName m) apos) es [] cpos) (tBM X.K "list" (rMu X.K m) to t) := by
  have mt := mt_mu (X := X) m
  cases es with
  | nil =>
    have := hn rfl
    subst this
    cases m <;> first
      | exact PE.imp (pe_bm0 PySem.F.plainAttrs_list PySem.F.slot_list_append PySem.F.type_list_append mt ho (hb _) hl) fun σ H Q q => q
      | exact PE.imp (pe_bm0 PySem.F.plainAttrs_list PySem.F.slot_list_insert PySem.F.type_list_insert mt ho (hb _) hl) fun σ H Q q => q
      | exact PE.imp (pe_bm0 PySem.F.plainAttrs_list PySem.F.slot_list_pop PySem.F.type_list_pop mt ho (hb _) hl) fun σ H Q q => q
      | exact PE.imp (pe_bm0 PySem.F.plainAttrs_list PySem.F.slot_list_reverse PySem.F.type_list_reverse mt ho (hb _) hl) fun σ H Q q => q
      | exact PE.imp (pe_bm0 PySem.F.plainAttrs_list PySem.F.slot_list_clear PySem.F.type_list_clear mt ho (hb _) hl) fun σ H Q q => q
      | exact PE.imp (pe_bm0 PySem.F.plainAttrs_list PySem.F.slot_list_extend PySem.F.type_list_extend mt ho (hb _) hl) fun σ H Q q => q
      | exact PE.imp (pe_bm0 PySem.F.plainAttrs_list PySem.F.slot_list_remove PySem.F.type_list_remove mt ho (hb _) hl) fun σ H Q q => q
  | cons e es =>
    have s1 := star_cons (env := X.env) (es := es) (plains_cons h).1
    have s2 := star_any (pos := cpos) (env := X.env) (plains_cons h).2
    have s3 := star_all (pos := cpos) (env := X.env) h
    have s4 : (((((backTo cpos (starEach (e :: es) X.env)).all fun x => !x.fst) && (backToKw cpos (keywordEach [] X.env)).all fun x => x.fst.isSome) && decide (((e :: es).length + ([] : List Keyword).length + if ([] : List Keyword).isEmpty = true then 0 else 1) < 30)) = true) := by
      rw [s3]
      simp only [List.isEmpty_nil, if_true]
      rw [decide_eq_true (show (e :: es).length + ([] : List Keyword).length + 0 < 30 by simpa using hz)]
      rfl
    cases m <;> first
      | exact pe_bm PySem.F.plainAttrs_list PySem.F.slot_list_append PySem.F.type_list_append mt ho pa (hb _) s4 hl s1 s2
      | exact pe_bm PySem.F.plainAttrs_list PySem.F.slot_list_insert PySem.F.type_list_insert mt ho pa (hb _) s4 hl s1 s2
      | exact pe_bm PySem.F.plainAttrs_list PySem.F.slot_list_pop PySem.F.type_list_pop mt ho pa (hb _) s4 hl s1 s2
      | exact pe_bm PySem.F.plainAttrs_list PySem.F.slot_list_reverse PySem.F.type_list_reverse mt ho pa (hb _) s4 hl s1 s2
      | exact pe_bm PySem.F.plainAttrs_list PySem.F.slot_list_clear PySem.F.type_list_clear mt ho pa (hb _) s4 hl s1 s2
      | exact pe_bm PySem.F.plainAttrs_list PySem.F.slot_list_extend PySem.F.type_list_extend mt ho pa (hb _) s4 hl s1 s2
      | exact pe_bm PySem.F.plainAttrs_list PySem.F.slot_list_remove PySem.F.type_list_remove mt ho pa (hb _) s4 hl s1 s2
theorem pts_of {p : Expr → E → Bool} (hp : ∀ e e', p e e' = true → Snd X XR wF e (e', evE Y e')) {ifs : List Expr} {c' : Option E} (h : mC p ifs c' = true) : PTs X ifs (tCond X.K XR (evo Y c')) := by
  unfold mC at h
  split at h
  · rw [evo]; exact pts_nil
  · obtain ⟨k1, k2⟩ := band h
    rw [evo]
    exact pts_one ((hp _ _ k2).pt ((Bool.not_eq_true' _).mp k1))
  · cases h
theorem lc_parts (c : CxOk Γ Y XR Wx X sc) (hp : ∀ {X : Cx} {Wx : WX'} {sc : Scope} {e : Expr} {e' : E}, CxOk Γ Y XR Wx X sc → mE Γ n sc e e' = true → Snd X XR Wx e (e', evE Y e')) {elt : Expr} {gens : List Comprehension} {scope : Scope} {elt' : E} {tg' : Tg} {it' : It} {c' : Option E} {ow : List Nat}
    (h : mLc Γ (mE Γ n) (mTg Γ n) sc elt gens scope elt' tg' it' c' ow = true) :
    ∃ tg iter ifs own, gens = [⟨tg, iter, ifs, 0⟩] ∧ PI X tg iter (tI X.K XR Wx ow (evI Y it' ow)) ∧ BlkOk X.N X.env.scope scope own ∧ ow = own.map (·.2) ∧
      (∀ (s : Shared) (H : Hp) (C : Addr) (cl : List (Str × Addr)) (fp : List Addr), PG (X.blk s H scope (compEnvC scope cl C X.env) fp) tg (gOf X.K tg')) ∧
      (∀ (s : Shared) (H : Hp) (C : Addr) (cl : List (Str × Addr)) (fp : List Addr), PTs (X.blk s H scope (compEnvC scope cl C X.env) fp) ifs (tCond X.K XR (evo Y c'))) ∧
      (∀ (s : Shared) (H : Hp) (C : Addr) (cl : List (Str × Addr)) (fp : List Addr), PE (X.blk s H scope (compEnvC scope cl C X.env) fp) elt (tE X.K XR wF (elt', evE Y elt'))) ∧
      (∀ x, foldedSetIterable iter X.env x = pure x) ∧ (∀ j ∈ tgSlots tg', j ∈ ow) := by
  unfold mLc at h
  split at h
  · rename_i tg iter ifs
    obtain ⟨h1, h8⟩ := band h
    obtain ⟨h1, h7⟩ := band h1
    obtain ⟨h1, h6⟩ := band h1
    obtain ⟨h1, h5⟩ := band h1
    obtain ⟨h1, h4⟩ := band h1
    obtain ⟨h1, h3⟩ := band h1
    obtain ⟨h1, h2⟩ := band h1
    have h2 := of_decide_eq_true h2
    have h4 := (Bool.not_eq_true' _).mp h4
    have b0 := blkOk_by h1
    have b1 : BlkOk X.N X.env.scope scope (ownOf Γ ow) := ⟨b0.kind, b0.uniq, fun p hp => by rw [c.hN]; exact b0.ix p hp, fun y hy e => by
      rcases b0.free y hy e with z | z
      · rcases c.rel _ _ z with z | ⟨z, _⟩
        · exact .inl z
        · cases z
      · rcases c.rel _ _ z with z | ⟨_, z⟩
        · exact .inr z
        · exact .inl z, fun y hy e => by rw [c.hN]; exact b0.own y hy e⟩
    exact ⟨tg, iter, ifs, ownOf Γ ow, rfl, pi_of c (fun e e' k => (hp c k).pe) h5, b1, h2.symm, fun s H C cl fp => pg_of (c.blk s H scope cl C fp) h6,
      fun s H C cl fp => pts_of (fun e e' k => hp (c.blk s H scope cl C fp) k) h7, fun s H C cl fp => (hp (c.blk s H scope cl C fp) h8).pe, fold_of h4, fun j hj => by simpa using List.all_eq_true.mp h3 j hj⟩
  · cases h
/-- expressions -/
theorem snd : ∀ (n : Nat) {X : Cx} {Wx : WX'} {sc : Scope} {e : Expr} {e' : E}, CxOk Γ Y XR Wx X sc → mE Γ n sc e e' = true → Snd X XR Wx e (e', evE Y e')
  | 0, _, _, _, _, _, _, h => by simp [mE] at h
  | n + 1, X, Wx, sc, e, e', c, h => by
    have ih : ∀ {e : Expr} {e' : E}, mE Γ n sc e e' = true → Snd X XR Wx e (e', evE Y e') := fun h => snd n c h
    have ihp : ∀ e e', mE Γ n sc e e' = true → PE X e (tE X.K XR Wx (e', evE Y e')) := fun e e' h => (ih h).pe
    unfold mE at h
    split at h
    · -- one of and, or
      rename_i op a pos
      obtain ⟨h1, h2⟩ := band h
      have k := ih h2
      have h1 : isIf a = false := by simpa using h1
      refine ⟨pe_one k.pe, fun _ => ?_, fun _ => ?_⟩
      · cases op
        · exact (pw_and1 (k.pt h1)).pt
        · exact (pw_or1 (k.pt h1)).pt
      · cases op
        · exact pw_and1 (k.pt h1)
        · exact pw_or1 (k.pt h1)
    · rename_i a b rest pos a' b'
      obtain ⟨h1, h3⟩ := band h
      obtain ⟨h1, h2⟩ := band h1
      have h1 : isIf a = false := by simpa using h1
      have ka := ih h2
      have kb := ih h3
      have pw : PW X (.BoolOp .And (a :: b :: rest) pos) (tB (tE X.K XR Wx (.and a' b', evE Y (.and a' b')))) := PW.imp (pw_and (ka.pt h1) (kb.pw rfl)) fun σ H Q q => and_tAnd (e := .and a' b') (a := a') (b := b') rfl rfl rfl (by rw [evE] at q; exact q)
      exact ⟨PE.imp (pe_and ka.pe kb.pe) fun σ H Q q => and_tAndV (e := .and a' b') (a := a') (b := b') rfl rfl rfl (by rw [evE] at q; exact q), fun _ => pw.pt, fun _ => pw⟩
    · rename_i a b rest pos a' b'
      obtain ⟨h1, h3⟩ := band h
      obtain ⟨h1, h2⟩ := band h1
      have h1 : isIf a = false := by simpa using h1
      have ka := ih h2
      have kb := ih h3
      have pw : PW X (.BoolOp .Or (a :: b :: rest) pos) (tB (tE X.K XR Wx (.or a' b', evE Y (.or a' b')))) := PW.imp (pw_or (ka.pt h1) (kb.pw rfl)) fun σ H Q q => or_tOr (e := .or a' b') (a := a') (b := b') rfl rfl rfl (by rw [evE] at q; exact q)
      exact ⟨PE.imp (pe_or ka.pe kb.pe) fun σ H Q q => or_tOrV (e := .or a' b') (a := a') (b := b') rfl rfl rfl (by rw [evE] at q; exact q), fun _ => pw.pt, fun _ => pw⟩
    · exact Snd.val (PE.imp pe_non fun σ H Q q => imm_tC q (fun env => by rw [evE]) rfl fun _ _ => .non) (fun _ => rfl) rfl
    · have h := eq_of_beq h
      subst h
      exact Snd.val (PE.imp pe_bl fun σ H Q q => imm_tC q (fun env => by rw [evE]) rfl fun _ _ => .bl _) (fun _ => rfl) rfl
    · have h := eq_of_beq h
      subst h
      exact Snd.val (PE.imp pe_int fun σ H Q q => imm_tC q (fun env => by rw [evE]) rfl fun _ _ => .int _) (fun _ => rfl) rfl
    · have h := of_decide_eq_true h
      subst h
      exact Snd.val (PE.imp pe_str fun σ H Q q => imm_tC q (fun env => by rw [evE]) rfl fun _ _ => .str _) (fun _ => rfl) rfl
    · exact Snd.val (PE.imp (nm_of c h) fun σ H Q q => var_tVar (by rw [evE] at q; exact q)) (fun _ => rfl) rfl
    · exact Snd.val (PE.imp (nm_of c h) fun σ H Q q => mv_tVar (by rw [evE] at q; exact q)) (fun _ => rfl) rfl
    · exact Snd.val (PE.imp (nm_of c h) fun σ H Q q => fz_tVar (by rw [evE] at q; exact q)) (fun _ => rfl) rfl
    · obtain ⟨h1, h3⟩ := band h
      obtain ⟨h1, h2⟩ := band h1
      obtain ⟨v, u, cc, g1, g2, g3, g4⟩ := c.gcs _ _ (of_decide_eq_true h1)
      exact Snd.val (PE.imp (pe_glob (gl_of c h2) g1 g2 (nodb_of h3).1) fun σ H Q q => imm_tC q (fun env => by rw [evE]; simp only [g3]; rfl) rfl g4) (fun _ => rfl) rfl
    · rename_i a o b pos o' a' b'
      obtain ⟨h1, h3⟩ := band h
      obtain ⟨h1, h2⟩ := band h1
      have h1 := of_decide_eq_true h1
      subst h1
      exact Snd.val (PE.imp (pe_op op_bin (ihp _ _ h2) (ihp _ _ h3)) fun σ H Q q => ev2_tOp (e := .bin o a' b') (evE_ok _) (evE_ok _) rfl (fun q => by simpa [triv] using q) (.inr fun _ _ _ => Nat.zero_le _) (by rw [evE] at q; exact q)) (fun _ => rfl) rfl
    · exact Snd.val (PE.imp (pe_un un_neg (ihp _ _ h)) fun σ H Q q => neg_tUn (by rw [evE] at q; exact q)) (fun _ => rfl) rfl
    · obtain ⟨h1, h2⟩ := band h
      have h1 := (Bool.not_eq_true' _).mp h1
      have k := ih h2
      refine ⟨PE.imp (pe_not k.pe) fun σ H Q q => not_tNotV rfl rfl (by rw [evE] at q; exact q), fun _ => PT.imp (pt_not (k.pt h1)) fun σ H Q q => not_tNot rfl rfl (by rw [evE] at q; exact q), fun q => by cases q⟩
    · rename_i a o b pos o' a' b'
      obtain ⟨h1, h4⟩ := band h
      obtain ⟨h1, h3⟩ := band h1
      obtain ⟨h1, h2⟩ := band h1
      have h1 := of_decide_eq_true h1
      subst h1
      have h2 := (Bool.not_eq_true' _).mp h2
      have oc := op_cmpK (X := X) (o := o) (by have := c.un; omega)
      refine ⟨PE.imp (pe_cmpR oc (ihp _ _ h3) (ihp _ _ h4) h2) fun σ H Q q => ev2_tOp (e := .cmp o a' b') (evE_ok _) (evE_ok _) rfl (fun q => by simpa [triv] using q) (.inr fun _ _ _ => Nat.zero_le _) (by rw [evE] at q; exact q),
        fun _ => PT.imp (pt_cmpR oc (ihp _ _ h3) (ihp _ _ h4) h2) fun σ H Q q => ev2_tOp (e := .cmp o a' b') (evE_ok _) (evE_ok _) rfl (fun q => by simpa [triv] using q) (.inr fun _ _ _ => Nat.zero_le _) (by rw [evE] at q; exact q), fun q => by cases q⟩
    · obtain ⟨h1, h6⟩ := band h
      obtain ⟨h1, h5⟩ := band h1
      obtain ⟨h1, h4⟩ := band h1
      obtain ⟨h1, h3⟩ := band h1
      obtain ⟨h1, h2⟩ := band h1
      have h1 := of_decide_eq_true h1
      have h2 := of_decide_eq_true h2
      subst h1 h2
      have h3 := (Bool.not_eq_true' _).mp h3
      have hu : X.A.units + 65 < cLine := by have := c.un; omega
      refine ⟨PE.imp (pe_chain (op_cmpK hu) (op_cmpK hu) (ihp _ _ h4) (ihp _ _ h5) (ihp _ _ h6) h3) fun σ H Q q => chain_tChain (evE_ok _) (evE_ok _) (by rw [evE] at q; exact q),
        fun _ => PT.imp (pt_chain (op_cmpK hu) (op_cmpK hu) (ihp _ _ h4) (ihp _ _ h5) (ihp _ _ h6) h3) fun σ H Q q => chain_tChain (evE_ok _) (evE_ok _) (by rw [evE] at q; exact q), fun q => by cases q⟩
    · obtain ⟨h1, h5⟩ := band h
      obtain ⟨h1, h4⟩ := band h1
      obtain ⟨h1, h3⟩ := band h1
      obtain ⟨h1, h2⟩ := band h1
      have h1 := (Bool.not_eq_true' _).mp h1
      have h2 := eq_of_beq h2
      exact ⟨PE.imp (pe_ifExp ((ih h3).pt h1) (ihp _ _ h4) (ihp _ _ h5)) fun σ H Q q => ite_tIf (by rw [evE] at q; exact q) h2, fun q => (by cases q), fun q => (by cases q)⟩
    · obtain ⟨h1, h2⟩ := band h
      exact Snd.val (PE.imp (pe_tup (pa_all ihp h1 h2)) fun σ H Q q => tup_tTup (evs_fst _).symm (by rw [evE] at q; exact q)) (fun _ => rfl) rfl
    · obtain ⟨h1, h2⟩ := band h
      exact Snd.val (PE.imp (pe_lst (pa_all ihp h1 h2)) fun σ H Q q => lst_tLst (evs_fst _).symm (by rw [evE] at q; exact q)) (fun _ => rfl) rfl
    · obtain ⟨h1, h3⟩ := band h
      obtain ⟨h1, h2⟩ := band h1
      exact Snd.val (PE.imp (pe_slice sl_any (ihp _ _ h1) (po_of ihp h2) (po_of ihp h3)) fun σ H Q q => slc_tSl (evE_ok _) evo_ok (by rw [evE] at q; exact q)) (fun _ => rfl) rfl
    · rename_i a i pos a' i'
      obtain ⟨h1, h3⟩ := band h
      obtain ⟨h1, h2⟩ := band h1
      have h1 := (Bool.not_eq_true' _).mp h1
      refine Snd.val (PE.imp (pe_ix op_item (ihp _ _ h2) (ihp _ _ h3) (pl_of h1)) fun σ H Q q => ev2_tOp (e := .idx a' i') (evE_ok _) (evE_ok _) rfl (fun q => by simpa [triv] using q) ?_ (by rw [evE] at q; exact q)) (fun _ => rfl) rfl
      cases hb : bw a' with
      | true => exact .inl (by simp [bw, hb])
      | false => exact .inr fun t1 t2 x => by simp [b1, own, hb]
    · rename_i x p1 a es pos b es'
      obtain ⟨h1, h4⟩ := band h
      obtain ⟨h1, h3⟩ := band h1
      obtain ⟨h1, h2⟩ := band h1
      have h1 := of_decide_eq_true h1
      subst h1
      exact Snd.val (PE.imp (bi_call c h2 h3 (pa_all ihp h3 h4)) fun σ H Q q => evN_tLn (e := .bi b es') (evs_ok _) rfl (fun z => by rw [evs_fst]; simpa [triv] using z) (by rw [evE] at q; exact q)) (fun _ => rfl) rfl
    · rename_i x p1 a es pos f es'
      obtain ⟨h1, h5⟩ := band h
      obtain ⟨h1, h4⟩ := band h1
      obtain ⟨h1, h3⟩ := band h1
      obtain ⟨h1, h2⟩ := band h1
      obtain ⟨k, ad, fd, ps, F, hr, hm, hk, hb⟩ := c.fns _ _ _ (of_decide_eq_true h1)
      refine Snd.val (PE.imp (pe_callG (E := fun σ cls d H => Wx cls d σ H) F hr c.gd (gl_of c h2) hm hk hb (fun σ => passAt c.tk σ) (pa_all ihp h4 h5) (nodb_of h3).1 (star_cons (plains_cons h4).1) (star_any (plains_cons h4).2)) fun σ H Q q => ?_) (fun _ => rfl) rfl
      exact call_tLn (evs_ok _) (by rw [evs_len, ← all2_len h5]) (by rw [evE] at q; rw [evs_fst]; exact q)
    · rename_i r p1 name p es q m i es'
      obtain ⟨g6, h6⟩ := band h
      obtain ⟨g5, h5⟩ := band g6
      obtain ⟨g4, h4⟩ := band g5
      obtain ⟨g3, h3⟩ := band g4
      obtain ⟨h1, g2⟩ := band g3
      have h2 := of_decide_eq_true g2
      subst h2
      have pr : PE X (.Name r p1) (tE X.K XR Wx (.var i, evE Y (.var i))) := PE.imp (nm_of c h1) fun σ H Q q => var_tVar (by rw [evE] at q; exact q)
      refine Snd.val (PE.imp (mu_call pr (pa_all ihp h4 h6) h4 (of_decide_eq_true h5) h3 (fun _ => rfl) (fun z => ?_)) fun σ H Q q => ?_) (fun _ => rfl) rfl
      · subst z
        cases es' with
        | nil => rw [evs]; rfl
        | cons _ _ => simp [all2] at h6
      · exact mut_tBM (evE_ok _) (by rw [evE] at q; rw [evs_fst]; exact q)
    · obtain ⟨tg, iter, ifs, own, rfl, p1, p2, rfl, p4, p5, p6, p7, p8⟩ := lc_parts c (fun {X Wx sc e e'} c h => snd n c h) h
      exact Snd.val (PE.imp (pe_lc c.calm (by rw [c.hN]; exact c.nd) p1 p2 p4 p5 p6 p7) fun σ H Q q => comp_tLc (gok_of _ _) p8 rfl rfl (by rw [evE] at q; exact q)) (fun _ => rfl) rfl
    · cases h
end
end VS

/-! VS15: statements' readings. -/
set_option linter.all false
set_option autoImplicit false
set_option maxRecDepth 100000
set_option maxHeartbeats 4000000
namespace VS
open PySem PySem.Spec PyProof.Rows L2
section
variable (K : PySem.W.Frag) (XR : XRel) (Wx : WX')
/-- a statement's end, by the evaluator -/
def SR (A : List Nat) (Z : Addr → Prop) (H : Hp) (σ : Sl) (ev : EnvT) (o : O) (D : Ends) : Prop := match o with
  | .nx env' => ∀ Z' H' σ' ev', erE ev' = env' → AftS K Z H σ ev A Z' H' σ' ev' → D.nx σ' H'
  | .bk env' => ∀ Z' H' σ' ev', erE ev' = env' → AftS K Z H σ ev A Z' H' σ' ev' → D.bk σ' H'
  | .rt d env' => ∀ Z' H' σ' ev' t, t.er = d → erE ev' = env' → AftS K Z H σ ev A Z' H' σ' ev' → Holds K Z' H' t → (∀ a, H a ≠ none → cntE a ev' + t.cnt a ≤ cntE a ev) → (∀ a, cntE a ev' + t.cnt a ≤ 1) → D.rt t.val H'
  | .exn x env' => ∀ Z' H' σ' ev' cls dd, erE ev' = env' → AftS K Z H σ ev A Z' H' σ' ev' → XR x cls dd Z' H' → Wx cls dd σ' H'
  | .stuck => False
def tS (A : List Nat) (f : Env → O) : TS := fun D σ H => ∃ Z ev, StOk K Z H σ ev ∧ SR K XR Wx A Z H σ ev (f (erE ev)) D
end
section
variable {K : PySem.W.Frag} {XR : XRel} {Wx : WX'} {Z Z' Z1 Z2 : Addr → Prop} {H H' H1 H2 : Hp} {σ σ1 σ2 : Sl} {ev ev' ev1 ev2 : EnvT} {A B A' : List Nat}
theorem AftS.trans (a : AftS K Z H σ ev A Z1 H1 σ1 ev1) (b : AftS K Z1 H1 σ1 ev1 B Z2 H2 σ2 ev2) (h1 : ∀ j ∈ A, j ∈ A') (h2 : ∀ j ∈ B, j ∈ A') : AftS K Z H σ ev A' Z2 H2 σ2 ev2 :=
  ⟨b.st, a.w.trans b.w (se_le a.old), fun x hx => Nat.le_trans (b.old x (a.w.gr' hx)) (a.old x hx), fun j hj => (b.sl j fun q => hj (h2 j q)).trans (a.sl j fun q => hj (h1 j q))⟩
theorem AftS.more (a : AftS K Z H σ ev A Z1 H1 σ1 ev1) (h : ∀ j ∈ A, j ∈ A') : AftS K Z H σ ev A' Z1 H1 σ1 ev1 := ⟨a.st, a.w, a.old, fun j hj => a.sl j fun q => hj (h j q)⟩
theorem AftS.refl (s : StOk K Z H σ ev) : AftS K Z H σ ev A Z H σ ev := ⟨s, W.refl, fun _ _ => Nat.le_refl _, fun _ _ => rfl⟩
theorem AftX.s (a : AftX K Z H σ ev Z1 H1 ev1) : AftS K Z H σ ev A Z1 H1 σ ev1 := ⟨a.st, a.w, a.old, fun _ _ => rfl⟩
/-- behind something -/
theorem SR.after {o : O} {D : Ends} (h : SR K XR Wx A' Z H σ ev o D) (a : AftS K Z H σ ev A Z1 H1 σ1 ev1) (h1 : ∀ j ∈ A, j ∈ A') (h2 : ∀ j ∈ B, j ∈ A') : SR K XR Wx B Z1 H1 σ1 ev1 o D := by
  cases o with
  | nx env' => exact fun Z' H' σ' ev' e b => h Z' H' σ' ev' e (a.trans b h1 h2)
  | bk env' => exact fun Z' H' σ' ev' e b => h Z' H' σ' ev' e (a.trans b h1 h2)
  | rt d env' => exact fun Z' H' σ' ev' t et e b hd ho hn => h Z' H' σ' ev' t et e (a.trans b h1 h2) hd (fun x hx => Nat.le_trans (ho x (a.w.gr' hx)) (a.old x hx)) hn
  | exn x env' => exact fun Z' H' σ' ev' cls dd e b => h Z' H' σ' ev' cls dd e (a.trans b h1 h2)
  | stuck => exact h
theorem SR.mono {o : O} {D D' : Ends} (h : SR K XR Wx A Z H σ ev o D) (hn : ∀ Z' H' σ' ev' env', o = .nx env' → erE ev' = env' → AftS K Z H σ ev A Z' H' σ' ev' → D.nx σ' H' → D'.nx σ' H') (hb : ∀ Z' H' σ' ev' env', o = .bk env' → erE ev' = env' → AftS K Z H σ ev A Z' H' σ' ev' → D.bk σ' H' → D'.bk σ' H') (hr : ∀ v H', D.rt v H' → D'.rt v H') : SR K XR Wx A Z H σ ev o D' := by
  cases o with
  | nx env' => exact fun Z' H' σ' ev' e b => hn Z' H' σ' ev' _ rfl e b (h Z' H' σ' ev' e b)
  | bk env' => exact fun Z' H' σ' ev' e b => hb Z' H' σ' ev' _ rfl e b (h Z' H' σ' ev' e b)
  | rt d env' => exact fun Z' H' σ' ev' t et e b hd ho hn => hr _ _ (h Z' H' σ' ev' t et e b hd ho hn)
  | exn x env' => exact h
  | stuck => exact h
theorem XC.sr {x : Ex} {env' : Env} {D : Ends} (h : SR K XR Wx A Z H σ ev (.exn x env') D) : XC K XR Wx Z H σ ev x env' := fun Z' H' ev' cls dd e a => h Z' H' σ ev' cls dd e a.s
/-- an expression first -/
theorem out_ER {e : E} {r : VS.R D} {f : D → Env → O} {D : Ends} (h : SR K XR Wx A Z H σ ev (r.out f) D) : ER K XR Wx e Z H σ ev r fun Z1 H1 ev1 t => Aft K e Z H σ ev Z1 H1 ev1 t ∧ SR K XR Wx A Z H σ ev (f t.er (erE ev1)) D := by
  cases r with
  | stuck => exact h
  | exn x env' => exact XC.sr h
  | ok d env' => exact fun Z1 H1 ev1 t et ee a => ⟨a, by rw [et, ee]; exact h⟩
theorem nil_tS {D : Ends} (h : tS K XR Wx [] (fun env => .nx env) D σ H) : D.nx σ H := by
  obtain ⟨Z, ev, s, h⟩ := h
  exact h Z H σ ev rfl (.refl s)
theorem seq_tS {f g : Env → O} {D : Ends} (h : tS K XR Wx (A ++ B) (fun env => oSeq (f env) g) D σ H) : tSeq (tS K XR Wx A f) (tS K XR Wx B g) D σ H := by
  obtain ⟨Z, ev, s, h⟩ := h
  refine ⟨Z, ev, s, ?_⟩
  simp only [oSeq] at h
  have hA : ∀ j ∈ A, j ∈ A ++ B := fun j hj => List.mem_append_left _ hj
  have hB : ∀ j ∈ B, j ∈ A ++ B := fun j hj => List.mem_append_right _ hj
  cases ho : f (erE ev) with
  | nx env' =>
    rw [ho] at h
    intro Z1 H1 σ1 ev1 e a
    exact ⟨Z1, ev1, a.st, by rw [e]; exact SR.after h a hA hB⟩
  | bk env' => rw [ho] at h; exact SR.after h (.refl s (A := A)) hA hA
  | rt d env' => rw [ho] at h; exact SR.after (B := A) h (.refl s (A := A)) hA hA
  | exn x env' => rw [ho] at h; exact SR.after (B := A) h (.refl s (A := A)) hA hA
  | stuck => rw [ho] at h; exact h.elim
theorem ex_tDrop {e : E} {f : Env → VS.R D} {D : Ends} (h : tS K XR Wx [] (fun env => (f env).out fun _ env' => .nx env') D σ H) : tDrop (tE K XR Wx (e, f)) D σ H := by
  obtain ⟨Z, ev, s, h⟩ := h
  refine ⟨Z, ev, s, ER.mono (out_ER (e := e) h) fun Z1 H1 ev1 t a q => ?_⟩
  exact q.2 Z1 H1 σ ev1 rfl a.x.s
theorem retN_t {D : Ends} (h : tS K XR Wx [] (fun env => .rt (.imm .none) env) D σ H) : tRetN D σ H := by
  obtain ⟨Z, ev, s, h⟩ := h
  exact h Z H σ ev (.imm .non .none) rfl rfl (.refl s) (.imm .non) (fun a _ => by simp [VS.T.cnt]) (fun a => by have := s.one a; simp [VS.T.cnt]; omega)
theorem brk_t {D : Ends} (h : tS K XR Wx [] (fun env => .bk env) D σ H) : tBreak D σ H := by
  obtain ⟨Z, ev, s, h⟩ := h
  exact h Z H σ ev rfl (.refl s)
theorem Kept.cnts {e : E} {t : VS.T} (kp : Kept e t) (s : StOk K Z H σ ev) (a : Aft K e Z H σ ev Z1 H1 ev1 t) : (∀ x, H x ≠ none → cntE x ev1 + t.cnt x ≤ cntE x ev) ∧ ∀ x, cntE x ev1 + t.cnt x ≤ 1 := by
  have h1 : ∀ x, H x ≠ none → cntE x ev1 + t.cnt x ≤ cntE x ev := fun x hx => by rw [kp.cnt x]; exact a.old x hx
  refine ⟨h1, fun x => ?_⟩
  by_cases q : H x = none
  · rw [kp.cnt x]; exact a.new x q
  · have := h1 x q; have := s.one x; omega
/-- a kept thing first -/
theorem outOne_ER {e : E} {g : Env → VS.R D} {f : D → Env → O} {D : Ends} (h : SR K XR Wx A Z H σ ev ((evOne (e, g) (erE ev)).out f) D) : ER K XR Wx e Z H σ ev (g (erE ev)) fun Z1 H1 ev1 t => Aft K e Z H σ ev Z1 H1 ev1 t ∧ Kept e t ∧ SR K XR Wx A Z H σ ev (f t.er (erE ev1)) D := by
  have h1 := out_ER (e := e) h
  have h2 := evOne_ER h1
  exact ER.mono h2 fun Z1 H1 ev1 t a q => ⟨a, q.1, q.2.2⟩
theorem ret_tRet {e : E} {f : Env → VS.R D} {D : Ends} (h : tS K XR Wx [] (fun env => (evOne (e, f) env).out fun d env' => .rt d env') D σ H) : tRet (tE K XR Wx (e, f)) D σ H := by
  obtain ⟨Z, ev, s, h⟩ := h
  refine ⟨Z, ev, s, ER.mono (outOne_ER h) fun Z1 H1 ev1 t a q => ?_⟩
  obtain ⟨_, kp, q⟩ := q
  obtain ⟨k1, k2⟩ := kp.cnts s a
  exact q Z1 H1 σ ev1 t rfl rfl a.x.s a.hd k1 k2
theorem asg_tE {i : Nat} {e : E} {f : Env → VS.R D} {D : Ends} (h : tS K XR Wx [i] (stAsg i (e, f)) D σ H) : tE K XR Wx (e, f) σ H fun x H1 => gName i x σ H1 D.nx := by
  obtain ⟨Z, ev, s, h⟩ := h
  unfold stAsg at h
  refine ⟨Z, ev, s, ER.mono (outOne_ER h) fun Z1 H1 ev1 t a q => ?_⟩
  obtain ⟨_, kp, q⟩ := q
  obtain ⟨k1, k2⟩ := kp.cnts s a
  split at q
  · rename_i hi
    rw [erE_length] at hi
    refine q Z1 H1 _ (ev1.set i (some t)) (by rw [erE_set]; rfl) ⟨a.st.store hi a.hd k2, a.w, fun x hx => ?_, fun j hj => ?_⟩
    · have := cntE_store (t := t) hi x; have := k1 x hx; omega
    · rw [List.getElem?_set_ne (fun z => hj (by simp [z]))]
  · exact q.elim
theorem unp_tE {ts : List Tg} {g : TG} (hg : GOk K (.t ts) g) {e : E} {f : Env → VS.R D} {D : Ends} (h : tS K XR Wx (tgsSlots ts) (stUnp ts (e, f)) D σ H) : tE K XR Wx (e, f) σ H fun x H1 => g x σ H1 D.nx := by
  obtain ⟨Z, ev, s, h⟩ := h
  unfold stUnp at h
  refine ⟨Z, ev, s, ER.mono (outOne_ER h) fun Z1 H1 ev1 t a q => ?_⟩
  obtain ⟨_, kp, q⟩ := q
  split at q
  · rename_i env2 hb
    obtain ⟨c, hc⟩ : ∃ c, t.er = .imm c := by
      cases ht : t.er <;> rw [ht] at hb <;> simp [bindTg] at hb
      exact ⟨_, rfl⟩
    rw [hc] at hb
    obtain ⟨v, rfl⟩ := er_imm hc
    refine hg a.st (holds_imm a.hd rfl) hb fun σ' ev' b1 b2 b3 b4 b5 => q Z1 H1 σ' ev' b1 ⟨b2, a.w, fun x hx => Nat.le_trans (b3 x) (a.x.old x hx), fun j hj => b4 j (by simpa [tgSlots] using hj)⟩
  · exact q.elim
theorem if_tIfS {c : E} {f : Env → VS.R D} {g k : Env → O} {D : Ends} (h : tS K XR Wx (A ++ B) (fun env => stIf (f env) g k) D σ H) : tIfS (tB (tE K XR Wx (c, f))) (tS K XR Wx A g) (tS K XR Wx B k) D σ H := by
  obtain ⟨Z, ev, s, h⟩ := h
  have hA : ∀ j ∈ A, j ∈ A ++ B := fun j hj => List.mem_append_left _ hj
  have hB : ∀ j ∈ B, j ∈ A ++ B := fun j hj => List.mem_append_right _ hj
  simp only [stIf] at h
  refine ⟨Z, ev, s, ER.mono (out_ER (e := c) h) fun Z1 H1 ev1 t a q => ?_⟩
  obtain ⟨_, q⟩ := q
  split at q
  · rename_i ht
    obtain ⟨v, rfl⟩ := er_imm ht
    refine ⟨true, rc_bool (holds_imm a.hd rfl), ?_⟩
    simp only [if_true]
    exact ⟨Z1, ev1, a.st, SR.after q (a.x.s (A := A)) hA hA⟩
  · rename_i ht
    obtain ⟨v, rfl⟩ := er_imm ht
    refine ⟨false, rc_bool (holds_imm a.hd rfl), ?_⟩
    simp only [Bool.false_eq_true, if_false]
    exact ⟨Z1, ev1, a.st, SR.after q (a.x.s (A := A)) hA hB⟩
  · exact q.elim
theorem whl_tWhile {c : E} {f : Env → VS.R D} {g : Env → O} {n : Nat} {D : Ends} (h : tS K XR Wx A (whlGo f g n) D σ H) : tWhile (tB (tE K XR Wx (c, f))) (tS K XR Wx A g) D σ H := by
  refine ⟨fun m σ' H' => ∃ Z' ev', StOk K Z' H' σ' ev' ∧ SR K XR Wx A Z' H' σ' ev' (whlGo f g m (erE ev')) D, ⟨n, h⟩, fun m σ' H' hW => ?_⟩
  obtain ⟨Z, ev, s, h⟩ := hW
  have hA : ∀ j ∈ A, j ∈ A := fun _ h => h
  cases m with
  | zero => exact h.elim
  | succ m =>
    unfold whlGo at h
    refine ⟨Z, ev, s, ER.mono (out_ER (e := c) h) fun Z1 H1 ev1 t a q => ?_⟩
    obtain ⟨_, q⟩ := q
    split at q
    · rename_i ht
      obtain ⟨v, rfl⟩ := er_imm ht
      refine ⟨true, rc_bool (holds_imm a.hd rfl), ?_⟩
      simp only [if_true]
      refine ⟨fun σ' H' => ∃ Z' ev', StOk K Z' H' σ' ev' ∧ SR K XR Wx A Z' H' σ' ev' (whlGo f g m (erE ev')) D, fun σ' H' hN => ⟨m, Nat.lt_succ_self m, hN⟩, Z1, ev1, a.st, ?_⟩
      have q := SR.after (B := A) q (a.x.s (A := A)) hA hA
      cases ho : g (erE ev1) with
      | nx env2 =>
        rw [ho] at q
        intro Z2 H2 σ2 ev2 e b
        exact ⟨Z2, ev2, b.st, by rw [e]; exact SR.after q b hA hA⟩
      | bk env2 => rw [ho] at q; exact fun Z2 H2 σ2 ev2 e b => q Z2 H2 σ2 ev2 e b
      | rt d env2 => rw [ho] at q; exact q
      | exn x env2 => rw [ho] at q; exact q
      | stuck => rw [ho] at q; exact q.elim
    · rename_i ht
      obtain ⟨v, rfl⟩ := er_imm ht
      refine ⟨false, rc_bool (holds_imm a.hd rfl), ?_⟩
      simp only [Bool.false_eq_true, if_false]
      exact q Z1 H1 σ' ev1 rfl a.x.s
    · exact q.elim
theorem for_tFor {tg : Tg} {g : TG} (hg : GOk K tg g) {it : Env → VS.R (List D × (Env → Prop))} {body : Env → O} {D : Ends} (h : tS K XR Wx (tgSlots tg ++ B) (stFor tg it body) D σ H) : tFor (tI K XR Wx (tgSlots tg ++ B) it) g (tS K XR Wx B body) D σ H := by
  obtain ⟨Z, ev, s, h⟩ := h
  have hA : ∀ j ∈ tgSlots tg ++ B, j ∈ tgSlots tg ++ B := fun _ h => h
  have hT : ∀ j ∈ tgSlots tg, j ∈ tgSlots tg ++ B := fun j hj => List.mem_append_left _ hj
  have hB : ∀ j ∈ B, j ∈ tgSlots tg ++ B := fun j hj => List.mem_append_right _ hj
  unfold stFor at h
  refine ⟨Z, ev, s, ?_⟩
  cases hi : it (erE ev) with
  | stuck => rw [hi] at h; exact h.elim
  | exn x env' => rw [hi] at h; exact XC.sr h
  | ok p env' =>
    rw [hi] at h
    intro J Z1 H1 ev1 I ee a so hI
    simp only [R.out] at h
    rw [← ee] at h
    generalize hone : (fun (x : VS.D) (env : Env) => match bindTg tg x env with
      | some env2 => body env2
      | none => O.stuck) = one at h
    refine ⟨fun i m σ' H' => ∃ Z' ev', m = p.1.length - i ∧ i ≤ p.1.length ∧ StOk K Z' H' σ' ev' ∧ (∀ x, H1 x ≠ none → cntE x ev' ≤ cntE x ev1) ∧ (∀ x, H1 x ≠ none → H' x ≠ none) ∧ I Z' H' σ' ev' ∧ SR K XR Wx (tgSlots tg ++ B) Z' H' σ' ev' (forGo one p.2 (p.1.drop i) (erE ev')) D,
      ⟨_, Z1, ev1, rfl, Nat.zero_le _, a.st, fun _ _ => Nat.le_refl _, fun _ h => h, hI, SR.after h a.s hA hA⟩, fun i m σ' H' hW => ?_⟩
    obtain ⟨Z', ev', rfl, hle, st, hold, hsome, hI', q⟩ := hW
    by_cases hlt : i < p.1.length
    · right
      obtain ⟨d, hd⟩ : ∃ d, p.1[i]? = some d := ⟨p.1[i], List.getElem?_eq_getElem hlt⟩
      have hdrop : p.1.drop i = d :: p.1.drop (i + 1) := by
        rw [List.getElem?_eq_getElem hlt] at hd
        cases hd
        exact List.drop_eq_getElem_cons hlt
      rw [hdrop] at q
      unfold forGo at q
      split at q
      · rename_i hchk
        obtain ⟨hgo, hy⟩ := so.go _ _ _ _ i d hI' st hchk hd
        refine ⟨hgo, fun σ3 H3 => ∃ Z3 ev3, i + 1 ≤ p.1.length ∧ StOk K Z3 H3 σ3 ev3 ∧ (∀ x, H1 x ≠ none → cntE x ev3 ≤ cntE x ev1) ∧ (∀ x, H1 x ≠ none → H3 x ≠ none) ∧ I Z3 H3 σ3 ev3 ∧ SR K XR Wx (tgSlots tg ++ B) Z3 H3 σ3 ev3 (forGo one p.2 (p.1.drop (i + 1)) (erE ev3)) D, fun σ3 H3 hN => ?_, fun x H2 hyl => ?_⟩
        · obtain ⟨Z3, ev3, n1, n2⟩ := hN
          exact ⟨_, by omega, Z3, ev3, rfl, n1, n2⟩
        · obtain ⟨wy, cc, rfl, rc⟩ := hy x H2 hyl
          have st2 := st.kept0 wy
          subst hone
          simp only at q
          cases hbt : bindTg tg (.imm cc) (erE ev') with
          | none => rw [hbt] at q; exact q.elim
          | some env1 =>
            rw [hbt] at q
            simp only at q
            refine hg st2 rc hbt fun σ3 ev3 g1 g2 g3 g4 g5 => ?_
            have a3 : AftS K Z' H' σ' ev' (tgSlots tg) Z' H2 σ3 ev3 := ⟨g2, wy.mono fun _ z => z.elim, fun x _ => g3 x, g4⟩
            refine ⟨Z', ev3, g2, ?_⟩
            rw [← g1] at q
            cases ho : body (erE ev3) with
            | nx env2 =>
              rw [ho] at q
              intro Z4 H4 σ4 ev4 e b
              have a4 := a3.trans b hT hB
              refine ⟨Z4, ev4, by omega, b.st, fun x hx => Nat.le_trans (a4.old x (hsome x hx)) (hold x hx), fun x hx => a4.w.gr' (hsome x hx), so.keep _ _ _ _ _ _ _ _ _ hI' st a4.w st.soft (fun x hx => .inl hx) (fun x hx => a4.old x hx) (fun j hj => a4.sl j hj), ?_⟩
              rw [e]
              exact SR.after q a4 hA hA
            | bk env2 => rw [ho] at q; exact fun Z4 H4 σ4 ev4 e b => q Z4 H4 σ4 ev4 e (a3.trans b hT hB)
            | rt d env2 => rw [ho] at q; exact SR.after q a3 hT hB
            | exn x env2 => rw [ho] at q; exact SR.after q a3 hT hB
            | stuck => rw [ho] at q; exact q.elim
      · exact q.elim
    · left
      have e : i = p.1.length := by omega
      subst e
      rw [List.drop_length] at q
      unfold forGo at q
      split at q
      · rename_i hchk
        exact ⟨so.stop _ _ _ _ hI' st hchk, q Z' H' σ' ev' rfl (.refl st)⟩
      · exact q.elim
theorem cntE_out {i : Nat} {t : VS.T} (h : ev[i]? = some (some t)) (x : Addr) (hx : 0 < t.cnt x) : 0 < cntE x ev := by
  have := cntE_le x h
  simp only [oc] at this
  omega
theorem cnts_mem (b : Addr) : ∀ {ts : List VS.T} {i : Nat} (u : VS.T), i < ts.length → cnts b (ts.set i u) ≤ cnts b ts + u.cnt b := fun {ts i} u hi => by
  have := cnts_set b (ts := ts) (i := i) (t := ts[i]) u (List.getElem?_eq_getElem hi)
  omega
theorem ers_set {i : Nat} {u : VS.T} {ts : List VS.T} : ers (ts.set i u) = (ers ts).set i u.er := by
  rw [ers_map, ers_map, List.map_set]
theorem set_tAsg {r : Nat} {i e : E} {fi fe fr : Env → VS.R D} (hr : DnOk (.var r, fr)) {D : Ends} (h : tS K XR Wx [] (stSet r [] (i, fi) (e, fe)) D σ H) : tAsg (tE K XR Wx (e, fe)) (gSub (tE K XR Wx (.var r, fr)) (tE K XR Wx (i, fi)) rSetL) D σ H := by
  obtain ⟨Z, ev, s, h⟩ := h
  unfold stSet at h
  refine ⟨Z, ev, s, ER.mono (outOne_ER h) fun Z1 H1 ev1 t a q => ?_⟩
  obtain ⟨_, kp, q⟩ := q
  obtain ⟨k1, k2⟩ := kp.cnts s a
  cases hd0 : rd r (erE ev1) with
  | none => rw [hd0] at q; exact q.elim
  | some d0 =>
    rw [hd0] at q
    simp only [evL, R.out, List.isEmpty_nil, Bool.true_or, if_true] at q
    obtain ⟨t0, ht0, et0⟩ := rd_some hd0
    refine ⟨Z1, ev1, a.st, ?_⟩
    have hr' := hr r rfl
    simp only at hr'
    show ER K XR Wx (.var r) Z1 H1 σ ev1 (fr (erE ev1)) _
    rw [hr', hd0]
    intro Z2 H2 ev2 tr et2 ee2 a2
    have hv2 := a2.var r rfl
    refine ⟨Z2, ev2, a2.st, ?_⟩
    show ER K XR Wx i Z2 H2 σ ev2 (fi (erE ev2)) _
    have tr2 := a2.tr rfl
    have hd2 : Holds K Z2 H2 t := a.hd.keep0 tr2.2
    have a02 : AftS K Z H σ ev [] Z2 H2 σ ev2 := a.x.s.trans (a2.x.s (A := [])) (fun _ h => h) (fun _ h => h)
    rw [← ee2] at q
    cases hf : fi (erE ev2) with
    | stuck => rw [hf] at q; exact q.elim
    | exn x env' =>
      rw [hf] at q
      exact fun Z' H' ev' cls dd e b => q Z' H' σ ev' cls dd e (a02.trans (b.s (A := [])) (fun _ h => h) (fun _ h => h))
    | ok k env3 =>
      rw [hf] at q
      intro Z3 H3 ev3 t3 et3 ee3 a3
      simp only at q
      have hd3 : Holds K Z3 H3 t := by
        refine hd2.keep a3.w a2.st.soft fun x hx z => ?_
        have z : 0 < cntE x ev2 := z
        have := k2 x
        rw [← tr2.1] at this
        omega
      cases hr3 : rd r env3 with
      | none => rw [hr3] at q; exact q.elim
      | some d3 =>
        rw [hr3, ← ee3] at q
        rw [← ee3] at hr3
        obtain ⟨u, hu, eu⟩ := rd_some hr3
        have hval := rd_same a2.st a3.st hv2 hu
        simp only [putAt] at q
        have hs : ∃ xs n, d3 = .lst xs ∧ k = .imm (.int n) := by
          cases hsd : setD k t.er d3 with
          | none => rw [hsd] at q; exact q.elim
          | some p =>
            unfold setD at hsd
            split at hsd
            · exact ⟨_, _, rfl, rfl⟩
            · cases hsd
        obtain ⟨xs, n, rfl, rfl⟩ := hs
        simp only [setD] at q
        cases hix : ixN xs.length n with
        | none => rw [hix] at q; exact q.elim
        | some j =>
          rw [hix] at q
          simp only at q
          obtain ⟨ad, us, rfl⟩ : ∃ ad us, u = .lst ad us := by
            cases u <;> simp [VS.T.er] at eu
            exact ⟨_, _, rfl⟩
          simp only [VS.T.er, VS.D.lst.injEq] at eu
          have hh := a3.st.hold r _ hu
          obtain ⟨v3, rfl⟩ := er_imm et3
          have hj : j < us.length := by
            have := (L2.ixN_seq hix).2.1
            rw [← eu, ers_length] at this
            exact this
          cases hh with
          | lst g1 g2 g3 =>
            have sum : ∀ b, cntE b ev3 + t.cnt b ≤ 1 := fun b => by
              by_cases z : H2 b = none
              · have h1 := a3.x.one b z
                have h2 : t.cnt b = 0 := by
                  by_cases y : 0 < t.cnt b
                  · exact absurd z (hd2.own y).2.some
                  · omega
                omega
              · have h1 := a3.x.old b z
                have h2 := k2 b
                rw [← tr2.1] at h2
                omega
            obtain ⟨st', w', c'⟩ := set_slot (xs' := us.set j t) a3.st hu (c := fun b => t.cnt b) (fun y hy => (List.mem_or_eq_of_mem_set hy).elim (g3.all y) fun e => e ▸ hd3) (fun b => cnts_mem b t hj) sum
            refine ⟨ad, vals us, n, j, hval ▸ rfl, rc_int (holds_imm a3.hd rfl), g1, ?_, ?_⟩
            · rw [List.length_map, ← ers_length, eu]; exact hix
            · have hvs : vals (us.set j t) = (vals us).set j t.val := List.map_set
              rw [← hvs]
              refine q Z3 _ σ (ev3.set r (some (.lst ad (us.set j t)))) (by rw [erE_set]; simp only [Option.map, VS.T.er, ers_set, eu]) ⟨st', ?_, fun b hb => ?_, fun _ _ => rfl⟩
              · refine (a02.trans (a3.x.s (A := [])) (fun _ h => h) (fun _ h => h)).w.trans w' fun x hx => ?_
                subst hx
                by_cases q : H x = none
                · exact .inr q
                · have h1 := (a02.trans (a3.x.s (A := [])) (A' := []) (fun _ h => h) (fun _ h => h)).old x q
                  have h2 := cntE_out hu x (by simp only [VS.T.cnt, if_pos]; omega)
                  exact .inl (by show 0 < cntE x ev; omega)
              · have h3 := c' b
                have h4 := a3.x.old b ((a02.w).gr' hb)
                have h5 := k1 b hb
                rw [← tr2.1] at h5
                omega
end
end VS

/-! VS16: the program's statements against the small syntax. -/
set_option linter.all false
set_option autoImplicit false
set_option maxRecDepth 100000
set_option maxHeartbeats 8000000
namespace VS
open PySem PySem.Spec PyProof.Rows L2
def isComp : Expr → Bool
  | .ListComp .. => true
  | .SetComp .. => true
  | .DictComp .. => true
  | _ => false
def isLc : Expr → Bool
  | .ListComp .. => true
  | _ => false
def mS (Γ : Gam) : Nat → Scope → Stmt → S → Bool
  | 0, _, _, _ => false
  | n + 1, sc, st, s => match st, s with
    | .Assign [.Name y _] (.ListComp elt gens scope _) _, .asg i (.comp elt' tg' it' c' ow) => decide (Γ.N[i]? = some y) && loc sc y && mLc Γ (mE Γ n) (mTg Γ n) sc elt gens scope elt' tg' it' c' ow
    | .Assign [.Name y _] e _, .asg i e' => decide (Γ.N[i]? = some y) && loc sc y && !isComp e && mE Γ n sc e e'
    | .Assign [.Tuple es _ _] e _, .unp ts e' => plains es && all2 (mTg Γ n sc) es ts && !isTup e && !isComp e && mE Γ n sc e e'
    | .Assign [.Subscript (.Name r _) i _] e _, .setI r' [] i' e' => nm Γ sc r r' && !isSlice i && !isComp e && mE Γ n sc i i' && mE Γ n sc e e'
    | .Expr e _, .ex e' => !isComp e && mE Γ n sc e e'
    | .If c a b _, .ifs c' a' b' => !isIf c && mE Γ n sc c c' && all2 (mS Γ n sc) a a' && all2 (mS Γ n sc) b b'
    | .For tg iter body [] _, .fors tg' it' body' => !isSet iter && mTg Γ n sc tg tg' && mI (mE Γ n sc) sc tg iter it' && all2 (mS Γ n sc) body body'
    | .While c body [] _, .whl c' body' => !isIf c && mE Γ n sc c c' && all2 (mS Γ n sc) body body'
    | .Return (some e) _, .ret e' => mE Γ n sc e e'
    | .Return none _, .retN => true
    | .Pass _, .pass => true
    | .Break _, .brk => true
    | _, _ => false
structure SxOk (Γ : Gam) (Y : Ctx) (XR : XRel) (Wx : WX') (X : Cx) (sc : Scope) : Prop where
  cx : CxOk Γ Y XR Wx X sc
  same : X.env.scope = sc
  kind : sc.kind = .function
section
variable {Γ : Gam} {Y : Ctx} {XR : XRel} {Wx : WX'} {X : Cx} {sc : Scope} {n : Nat}
theorem PS.imp {st : Stmt} {t t' : TS} (h : PS X st t) (w : ∀ D σ H, t' D σ H → t D σ H) : PS X st t' := ⟨fun pins s σ H D I q => h.run pins s σ H D I (w _ _ _ q)⟩
theorem PSs.imp {st : List Stmt} {t t' : TS} (h : PSs X st t) (w : ∀ D σ H, t' D σ H → t D σ H) : PSs X st t' := ⟨fun pins s σ H D I q => h.run pins s σ H D I (w _ _ _ q)⟩
theorem subs_asg {o i : Expr} {pos : Pos} (h : isSlice i = false) : ∀ v, assign (.Subscript o i pos) X.env v = (do
      let ov ← holding [v] (eval o X.env)
      let iv ← holding [v, ov] (eval i X.env)
      standAt pos
      holding [v, ov, iv] (setItem ov iv v)
      release [v, ov, iv] []) := by
  cases i <;> first | (intro v; rfl) | simp [isSlice] at h
theorem swap_none {e : Expr} {t : Option Expr} {l : Nat} {env : PySem.Env} (h : isComp e = false) : swapsWith e t l env = pure false := by
  cases e <;> first | rfl | simp [isComp] at h
theorem swap_sole {e t : Expr} {l : Nat} {env : PySem.Env} (h : isComp e = false) : swapsWithSole [t] e l env = pure false := by
  unfold swapsWithSole
  exact swap_none h
theorem stores_none {t e : Expr} {env : PySem.Env} (h : isTup e = false) : swappedStores [t] e env = pure none := by
  cases e <;> first | (cases t <;> rfl) | simp [isTup] at h
theorem body_of {p : Stmt → S → Bool} (hp : ∀ st s, p st s = true → PS X st (tS X.K XR Wx (asgS s) (exS Y s))) : ∀ {b : List Stmt} {b' : List S}, all2 p b b' = true → PSs X b (tS X.K XR Wx (asgB b') (exB Y b'))
  | [], [], _ => by
    refine PSs.imp pss_nil fun D σ H q => ?_
    rw [asgB, exB] at q
    exact nil_tS q
  | [], _ :: _, h => by simp [all2] at h
  | _ :: _, [], h => by simp [all2] at h
  | st :: b, s :: b', h => by
    obtain ⟨h1, h2⟩ := band (by simpa only [all2] using h)
    refine PSs.imp (pss_cons (hp _ _ h1) (body_of hp h2)) fun D σ H q => ?_
    rw [asgB, exB] at q
    exact seq_tS q
theorem loc_of (c : SxOk Γ Y XR Wx X sc) {y : Str} (h : loc sc y = true) : Loc X.env.scope y ∧ (X.fn y = true ∨ X.env.scope.names.lookup y = some .local) := by
  unfold loc at h
  rw [c.same]
  split at h
  · rename_i q; exact ⟨.inl q, .inr q⟩
  · rename_i q; exact ⟨.inr q, .inl (c.cx.cel _ q)⟩
  · cases h
theorem sns : ∀ (n : Nat) {st : Stmt} {s : S}, SxOk Γ Y XR Wx X sc → mS Γ n sc st s = true → PS X st (tS X.K XR Wx (asgS s) (exS Y s))
  | 0, _, _, _, h => by simp [mS] at h
  | n + 1, st, s, c, h => by
    have ihp : ∀ e e', mE Γ n sc e e' = true → PE X e (tE X.K XR Wx (e', evE Y e')) := fun e e' h => (snd n c.cx h).pe
    have ih : ∀ st s, mS Γ n sc st s = true → PS X st (tS X.K XR Wx (asgS s) (exS Y s)) := fun st s h => sns n c h
    have nd : X.N.Nodup := by rw [c.cx.hN]; exact c.cx.nd
    unfold mS at h
    split at h
    · -- name = [.. for ..]
      rename_i y py elt gens scope pos spos i elt' tg' it' c' ow
      obtain ⟨h1, h3⟩ := band h
      obtain ⟨h1, h2⟩ := band h1
      have h1 := of_decide_eq_true h1
      obtain ⟨l1, l2⟩ := loc_of c h2
      obtain ⟨tg, iter, ifs, own, rfl, p1, p2, rfl, p4, p5, p6, p7, p8⟩ := lc_parts c.cx (fun {X Wx sc e e'} c h => snd n c h) h3
      have key : PS X (.Assign [.Name y py] (.ListComp elt [⟨tg, iter, ifs, 0⟩] scope pos) spos) (tAsg (tLc (tI X.K XR Wx (own.map (·.2)) (evI Y it' (own.map (·.2)))) (gOf X.K tg') (tCond X.K XR (evo Y c')) (tE X.K XR wF (elt', evE Y elt')) (own.map (·.2))) (gName i)) := by
        have e : swapsWith (.ListComp elt [⟨tg, iter, ifs, 0⟩] scope pos) (some (.Name y py)) spos.line X.env = pure (X.env.blockKind == .function && X.env.kindOf y == some .local && py.line == pos.line && !(scope.names.any fun (n, k) => n == y && (k == .local || k == .cell))) := rfl
        cases hB : (X.env.blockKind == .function && X.env.kindOf y == some .local && py.line == pos.line && !(scope.names.any fun (n, k) => n == y && (k == .local || k == .cell))) with
        | true =>
          rw [hB] at e
          refine ps_setLc c.cx.calm nd (by rw [c.cx.hN]; exact h1) ?_ e p1 p2 p4 p5 p6 p7
          simp only [Bool.and_eq_true, beq_iff_eq] at hB
          exact hB.1.1.2
        | false =>
          rw [hB] at e
          exact ps_set nd (by rw [c.cx.hN]; exact h1) l1 (pe_lc c.cx.calm nd p1 p2 p4 p5 p6 p7) e l2
      refine PS.imp key fun D σ H q => ?_
      rw [asgS, exS] at q
      have q := asg_tE q
      rw [evE] at q
      exact comp_tLc (gok_of _ _) p8 rfl rfl q
    · rename_i y py e spos i e' _
      obtain ⟨h1, h4⟩ := band h
      obtain ⟨h1, h3⟩ := band h1
      obtain ⟨h1, h2⟩ := band h1
      have h1 := of_decide_eq_true h1
      obtain ⟨l1, l2⟩ := loc_of c h2
      refine PS.imp (ps_set nd (by rw [c.cx.hN]; exact h1) l1 (ihp _ _ h4) (swap_none ((Bool.not_eq_true' _).mp h3)) l2) fun D σ H q => ?_
      rw [asgS, exS] at q
      exact asg_tE q
    · rename_i es k tp e spos ts e'
      obtain ⟨h1, h5⟩ := band h
      obtain ⟨h1, h4⟩ := band h1
      obtain ⟨h1, h3⟩ := band h1
      obtain ⟨h1, h2⟩ := band h1
      have pg : PG X (.Tuple es k tp) (gOf X.K (.t ts)) := by
        rw [gOf]
        exact pg_tup c.cx.calm (pgs_all (fun e t q => pg_of c.cx q) h1 h2) (by rw [asg_len h1, all2_len h2]) (asg_find h1)
      refine PS.imp (ps_asg (ihp _ _ h5) pg (swap_sole ((Bool.not_eq_true' _).mp h4)) (stores_none ((Bool.not_eq_true' _).mp h3)) rfl) fun D σ H q => ?_
      rw [asgS, exS] at q
      exact unp_tE (gok_of _ _) q
    · rename_i r rp i ip e spos r' i' e'
      obtain ⟨h1, h5⟩ := band h
      obtain ⟨h1, h4⟩ := band h1
      obtain ⟨h1, h3⟩ := band h1
      obtain ⟨h1, h2⟩ := band h1
      have pr : PE X (.Name r rp) (tE X.K XR Wx (.var r', evE Y (.var r'))) := PE.imp (nm_of c.cx h1) fun σ H Q q => var_tVar (by rw [evE] at q; exact q)
      refine PS.imp (ps_asg (ihp _ _ h5) (pg_sub pr (ihp _ _ h4) set_list (subs_asg ((Bool.not_eq_true' _).mp h2))) (swap_sole ((Bool.not_eq_true' _).mp h3)) (by cases e <;> rfl) rfl) fun D σ H q => ?_
      simp only [asgS, exS, evs] at q
      exact set_tAsg (evE_ok _) q
    · rename_i e spos e'
      obtain ⟨h1, h2⟩ := band h
      refine PS.imp (ps_expr (ihp _ _ h2) (swap_none ((Bool.not_eq_true' _).mp h1))) fun D σ H q => ?_
      simp only [asgS, exS] at q
      exact ex_tDrop q
    · rename_i cc a b spos c' a' b'
      obtain ⟨h1, h4⟩ := band h
      obtain ⟨h1, h3⟩ := band h1
      obtain ⟨h1, h2⟩ := band h1
      refine PS.imp (ps_if ((snd n c.cx h2).pt ((Bool.not_eq_true' _).mp h1)) (body_of ih h3) (body_of ih h4)) fun D σ H q => ?_
      rw [asgS, exS] at q
      exact if_tIfS q
    · rename_i tg iter body spos tg' it' body'
      obtain ⟨h1, h4⟩ := band h
      obtain ⟨h1, h3⟩ := band h1
      obtain ⟨h1, h2⟩ := band h1
      refine PS.imp (ps_for c.cx.po c.cx.calm (pi_of (A := tgSlots tg' ++ asgB body') c.cx ihp h3) (pg_of c.cx h2) (body_of ih h4) (fold_of ((Bool.not_eq_true' _).mp h1))) fun D σ H q => ?_
      rw [asgS, exS] at q
      exact for_tFor (gok_of _ _) q
    · rename_i cc body spos c' body'
      obtain ⟨h1, h3⟩ := band h
      obtain ⟨h1, h2⟩ := band h1
      refine PS.imp (ps_while c.cx.po ((snd n c.cx h2).pt ((Bool.not_eq_true' _).mp h1)) (body_of ih h3)) fun D σ H q => ?_
      rw [asgS, exS] at q
      exact whl_tWhile q
    · refine PS.imp (ps_ret (ihp _ _ h)) fun D σ H q => ?_
      simp only [asgS, exS] at q
      exact ret_tRet q
    · refine PS.imp ps_retN fun D σ H q => ?_
      simp only [asgS, exS] at q
      exact retN_t q
    · refine PS.imp ps_pass fun D σ H q => ?_
      simp only [asgS, exS] at q
      exact nil_tS q
    · refine PS.imp ps_break fun D σ H q => ?_
      simp only [asgS, exS] at q
      exact brk_t q
    · cases h
end
end VS

/-! VS17: defs. -/
set_option linter.all false
set_option autoImplicit false
set_option maxRecDepth 100000
set_option maxHeartbeats 8000000
namespace VS
open PySem PySem.Spec PyProof.Rows L2
/-- a def by its body, nothing guarding -/
theorem fn_g {Pg : Program} {w : World} {K : PySem.W.Frag} {mg : Str → Option Value} {base : Heap} {k : Nat} {fa : Addr} {nme ql : Str} {prm : Arguments} {bdy : List Stmt} {scp : Scope} {dV kV doc pm cdv ct oc : Value} {an od : Option Addr}
    {osl : Array (Option Value)} {N ps : List Str} {sp : Sp} (lk : K.lookup fa = some ⟨oc, od, .func (PySem.W.fnOf nme ql prm bdy scp dV kV doc pm an cdv ct), osl⟩) (hcd : PySem.W.codeIn K cdv ql = true) (S : FnScope N ps scp)
    (hlen : ∀ vs H Q E, sp vs H Q E → vs.length = ps.length)
    (hb : ∀ (A : Around) (out : List PySem.Env) (s : Shared) (H : Hp) (vs : List V) (Q : VK) (E : XK), Room k (A.deeper (envOfC ql scp s.heap.objs.size fa cdv)) → A.guards = some [] → sp vs H Q E →
      ∃ t, PSs (cxOf (L2.CX Pg w) Pg w K mg base N ql scp fa cdv A out s H E) bdy t ∧ t { nx := fun _ H' => Q .non H', rt := Q } (L2.start N vs) H) :
    FnG Pg w K mg base (k + 1) fa (PySem.W.fnOf nme ql prm bdy scp dV kV doc pm an cdv ct) ps sp := by
  refine ⟨hlen, fun A out s H args us vs Q E room gds ent bnds rel wish => ?_⟩
  have eqn := hlen _ _ _ _ wish
  have inK : K.In s.heap := ent.mod.kin.keeps fun b o q => (ent.bs b o q).1
  have nolim : s.heap.NoLimit := ent.mod.nolimit.keeps fun b o q => (ent.bs b o q).1
  have kinds : ∀ y ∈ ps.zip us, scp.names.lookup y.1 = some .local ∨ (scp.names.lookup y.1 = some .cell ∧ ((cellsFrom (s.heap.objs.size + 1) scp.names []).lookup y.1).isSome = true) := fun ⟨x, v⟩ hy => by
    rcases S.par x (List.of_mem_zip hy).1 with z | z
    · exact .inl z
    · exact .inr ⟨z, PySem.W.cellsFrom_some _ _ _ (.inl z)⟩
  refine codeAny_call_function room.depth (inK _ _ lk) rfl S.co S.gen rfl (PySem.W.codeRec_of inK hcd) (bnds _ _ _ _ ?_)
  refine wpAny_newFunctionEnv_cells S.kind kinds fun env he s1 incall => ?_
  subst he
  refine ⟨nolim.keeps incall.toInCall.keep, codeAny_func ?_⟩
  obtain ⟨t, walk, todo⟩ := hb A out s H vs Q E (room.deeper _) gds wish
  have I : Inv (cxOf (L2.CX Pg w) Pg w K mg base N ql scp fa cdv A out s H E) [] (L2.start N vs) H s1 := inv_start S room.hd ent eqn rel incall
  refine wpAny_mono (walk.run [] s1 (L2.start N vs) H _ I todo) (fun fl s' done => ?_) fun e s' done => done
  have leave : ∀ {σ' : Sl} {H' : Hp} {v : V} {u : Value}, Inv (cxOf (L2.CX Pg w) Pg w K mg base N ql scp fa cdv A out s H E) [] σ' H' s' → L2.RelV v u → Q v H' → CE out Pg w H s Q u s' := fun {σ' H' v u} J rv q => ⟨v, H', J.os, J.bare, J.base, J.hok, rv, q⟩
  match fl, done with
  | .ret u, ⟨v, σ', H', J, rv, q⟩ => exact leave J rv q
  | .next, ⟨σ', H', J, q⟩ => exact leave (v := V.non) (u := Value.none) J rfl q
  | .brk, ⟨_, _, _, q⟩ => exact q.elim
  | .cont, ⟨_, _, _, q⟩ => exact q.elim
section
variable {K : PySem.W.Frag} {XR : XRel} {Z Z' : Addr → Prop} {H H' : Hp} {σ σ' : Sl} {ev ev' : EnvT}
theorem finals_us : ∀ {n : Nat} {ev : EnvT} {fin : List D}, finals n (erE ev) = some fin → ∃ us : List VS.T, us.length = n ∧ ers us = fin ∧ (∀ (j : Nat) (u : VS.T), us[j]? = some u → ev[j]? = some (some u)) ∧ ∀ a, cnts a us ≤ cntE a ev
  | 0, ev, fin, h => by
    simp only [finals, Option.some.injEq] at h
    exact ⟨[], rfl, h, fun j u q => by simp at q, fun a => by simp [cnts]⟩
  | n + 1, [], fin, h => by simp [finals, erE] at h
  | n + 1, none :: ev, fin, h => by simp [finals, erE] at h
  | n + 1, some t :: ev, fin, h => by
    have h : (finals n (erE ev)).map (t.er :: ·) = some fin := h
    cases hf : finals n (erE ev) with
    | none => rw [hf] at h; cases h
    | some f =>
      rw [hf] at h
      cases h
      obtain ⟨us, u1, u2, u3, u4⟩ := finals_us hf
      refine ⟨t :: us, by rw [List.length_cons, u1], by rw [ers, u2], fun j u q => ?_, fun a => by have := u4 a; rw [cnts, cntE]; omega⟩
      cases j with
      | zero => simp at q; simp [q]
      | succ j => simpa using u3 j u (by simpa using q)
def ev0 (ts : List VS.T) (n : Nat) : EnvT := ts.map some ++ List.replicate n none
theorem ev0_er {ts : List VS.T} {n : Nat} : erE (ev0 ts n) = (ers ts).map some ++ List.replicate n none := by
  simp [erE, ev0, ers_map]
theorem cntE_none (a : Addr) : ∀ n : Nat, cntE a (List.replicate n none) = 0
  | 0 => rfl
  | n + 1 => by rw [List.replicate_succ, cntE, cntE_none a n]
theorem ev0_cnt (a : Addr) {n : Nat} : ∀ {ts : List VS.T}, cntE a (ev0 ts n) = cnts a ts
  | [] => by show cntE a (List.replicate n none) = _; rw [cntE_none, cnts]
  | t :: ts => by
    have := ev0_cnt a (n := n) (ts := ts)
    show cntE a (some t :: ev0 ts n) = _
    rw [cntE, cnts, this]
theorem ev0_get {ts : List VS.T} {n i : Nat} {t : VS.T} (h : (ev0 ts n)[i]? = some (some t)) : ts[i]? = some t := by
  unfold ev0 at h
  by_cases q : i < ts.length
  · rw [List.getElem?_append_left (by simpa using q), List.getElem?_map] at h
    cases e : ts[i]? with
    | none => rw [e] at h; cases h
    | some u => rw [e] at h; simpa using h
  · rw [List.getElem?_append_right (by simpa using q), List.getElem?_replicate] at h
    split at h <;> cases h
theorem start_ok {N : List Str} {ts : List VS.T} (zk : ZOk Z H) (hd : HoldsL K Z H ts) (h1 : ∀ a, cnts a ts ≤ 1) : StOk K Z H (L2.start N (vals ts)) (ev0 ts (N.length - ts.length)) := by
  refine ⟨by simp [L2.start, ev0], fun i t h => ?_, fun i t h => hd.get (ev0_get h), fun a => by rw [ev0_cnt]; exact h1 a, zk⟩
  have h := ev0_get h
  have hi : i < ts.length := (List.getElem?_eq_some_iff.mp h).1
  unfold L2.start
  rw [List.getElem?_append_left (by simpa using hi), List.getElem?_map, List.getElem?_map, h]
  rfl
/-- a body's end as the call's -/
theorem fret {N : List Str} {ts us : List VS.T} {A : List Nat} {rb : List Bool} {t : Option VS.T} {n : Nat} (hn : ts.length = n) (hrb : ∀ j : Nat, rb[j]? = some false → j ∉ A) (s : StOk K Z H (L2.start N (vals ts)) (ev0 ts (N.length - ts.length)))
    (a : AftS K Z H (L2.start N (vals ts)) (ev0 ts (N.length - ts.length)) A Z' H' σ' ev') (u1 : us.length = n) (u3 : ∀ (j : Nat) (u : VS.T), us[j]? = some u → ev'[j]? = some (some u)) (u4 : ∀ a, cnts a us ≤ cntE a ev')
    (hd : ∀ x, t = some x → Holds K Z' H' x) (ho : ∀ a, H a ≠ none → cntE a ev' + oc a t ≤ cnts a ts) (hw : ∀ a, cntE a ev' + oc a t ≤ 1) : FRet K rb Z H ts Z' H' us t where
  hdu := .of fun u hu => by
    obtain ⟨j, hj⟩ := List.getElem?_of_mem hu
    exact a.st.hold j u (u3 j u hj)
  hdt := hd
  w := a.w.mono fun x hx => by
    have hx : 0 < cntE x (ev0 ts (N.length - ts.length)) := hx
    rwa [ev0_cnt] at hx
  old := fun x hx => by have := ho x hx; have := u4 x; omega
  new := fun x _ => by have := hw x; have := u4 x; omega
  same := fun j hj u v hu hv => by
    have e1 := a.st.val j u (u3 j u hu)
    have hlt : j < ts.length := (List.getElem?_eq_some_iff.mp hv).1
    have e2 := s.val j v (by
      unfold ev0
      rw [List.getElem?_append_left (by simpa using hlt), List.getElem?_map, hv]; rfl)
    have e3 := a.sl j (hrb j hj)
    rw [e1, e2] at e3
    simpa using e3
  len := by rw [u1, hn]
end
/-- the module's defs and constants -/
structure Prg (K : PySem.W.Frag) (mg : Str → Option Value) (fns : List FnDef) (tab : List (Str × Nat)) (gcs : List Str) (consts : List C) : Prop where
  fn : ∀ (g : Nat) (x : Str) (np : Nat), tab[g]? = some (x, np) → ∃ (d : FnDef) (fa : Addr) (nme ql : Str) (prm : Arguments) (bdy : List Stmt) (scp : Scope) (dV kV doc pm cdv ct oc : Value) (an od : Option Addr) (osl : Array (Option Value)) (N ps : List Str) (n : Nat),
    fns[g]? = some d ∧ d.np = np ∧ mg x = some (.ref fa) ∧ PySem.W.keepIn K (.ref fa) = true ∧ K.lookup fa = some ⟨oc, od, .func (PySem.W.fnOf nme ql prm bdy scp dV kV doc pm an cdv ct), osl⟩ ∧ PySem.W.codeIn K cdv ql = true ∧ FnScope N ps scp ∧ N.length = d.ns ∧ ps.length = d.np ∧
      (∀ j : Nat, d.rb[j]? = some false → j ∉ asgB d.body) ∧ all2 (mS ⟨N, tab, gcs⟩ n scp) bdy d.body = true ∧ L2.Binds K (PySem.W.fnOf nme ql prm bdy scp dV kV doc pm an cdv ct) ps []
  gc : ∀ (g : Nat) (x : Str), gcs[g]? = some x → ∃ v u c, mg x = some u ∧ L2.RelV v u ∧ consts[g]? = some c ∧ ∀ Z H, RC K Z H v c
  bi : ∀ b, mg (biName b) = none
  rg : mg "range" = none
  zp : mg "zip" = none
def rbs (fns : List FnDef) (g : Nat) : List Bool := (fns[g]?.map FnDef.rb).getD []
noncomputable def ctxOf (fns : List FnDef) (consts : List C) (fuel n : Nat) : Ctx := { call := runFn fns consts fuel n, fuel := fuel, consts := consts, rb := fun g => (fns[g]?.map FnDef.rb).getD [] }
theorem fn_vs {Pg : Program} {w : World} {K : PySem.W.Frag} {mg : Str → Option Value} {base : Heap} {fns : List FnDef} {tab : List (Str × Nat)} {gcs : List Str} {consts : List C} (XR : XRel) (fuel : Nat) (M : Prg K mg fns tab gcs consts) :
    ∀ (lvl g : Nat) (x : Str) (np : Nat), tab[g]? = some (x, np) → ∃ (fa : Addr) (fd : FuncData) (ps : List Str), FnG Pg w K mg base lvl fa fd ps (spF K XR (runFn fns consts fuel lvl g) (rbs fns g) np) ∧ mg x = some (.ref fa) ∧ PySem.W.keepIn K (.ref fa) = true ∧ L2.Binds K fd ps []
  | 0, g, x, np, h => by
    obtain ⟨d, fa, nme, ql, prm, bdy, scp, dV, kV, doc, pm, cdv, ct, oc, an, od, osl, N, ps, n, m1, m2, m3, m4, m5, m6, m7, m8, m9, m10, m11, m12⟩ := M.fn g x np h
    have no : ∀ vs H Q E, spF K XR (runFn fns consts fuel 0 g) (rbs fns g) np vs H Q E → False := fun vs H Q E ⟨Z, ts, _, _, _, _, _, q⟩ => by
      simp only [runFn] at q
    exact ⟨fa, _, ps, ⟨fun vs H Q E q => (no _ _ _ _ q).elim, fun A out s H args us vs Q E _ _ _ _ _ q => (no _ _ _ _ q).elim⟩, m3, m4, m12⟩
  | lvl + 1, g, x, np, h => by
    obtain ⟨d, fa, nme, ql, prm, bdy, scp, dV, kV, doc, pm, cdv, ct, oc, an, od, osl, N, ps, n, m1, m2, m3, m4, m5, m6, m7, m8, m9, m10, m11, m12⟩ := M.fn g x np h
    refine ⟨fa, _, ps, fn_g m5 m6 m7 (fun vs H Q E ⟨Z, ts, e1, e2, _⟩ => by rw [e1, List.length_map, e2, m9, m2]) (fun A out s H vs Q E room gds hs => ?_), m3, m4, m12⟩
    obtain ⟨Z, ts, rfl, e2, zk, hd, h1, q⟩ := hs
    have cx : CxOk ⟨N, tab, gcs⟩ (ctxOf fns consts fuel lvl) XR (fun cls dd _ H => E cls dd H) (cxOf (L2.CX Pg w) Pg w K mg base N ql scp fa cdv A out s H E) scp := {
      hN := rfl, nd := m7.nd, calm := rfl, gd := gds, un := by have := room.un; show (A.deeper _).units + 100 < cLine; omega, rel := fun x k h => .inl h, cel := fun _ _ => rfl, bi := M.bi, rg := M.rg, zp := M.zp
      fns := fun f y m hy => by
        obtain ⟨fb, fd, qs, k1, k2, k3, k4⟩ := fn_vs (Pg := Pg) (w := w) (base := base) XR fuel M lvl f y m hy
        exact ⟨lvl, fb, fd, qs, k1, room, k2, k3, k4⟩
      gcs := M.gc
      tk := takes_of rfl rfl rfl rfl
      po := passes_of rfl }
    have sx : SxOk ⟨N, tab, gcs⟩ (ctxOf fns consts fuel lvl) XR (fun cls dd _ H => E cls dd H) (cxOf (L2.CX Pg w) Pg w K mg base N ql scp fa cdv A out s H E) scp := ⟨cx, rfl, m7.kind⟩
    refine ⟨_, body_of (fun st s k => sns n sx k) m11, Z, ev0 ts (N.length - ts.length), start_ok zk hd h1, ?_⟩
    have st0 := start_ok (K := K) (N := N) zk hd h1
    rw [ev0_er]
    have hr : rbs fns g = d.rb := by simp [rbs, m1]
    rw [hr] at q
    have hns : N.length - ts.length = d.ns - d.np := by rw [m8, e2, m2]
    simp only [runFn, m1] at q
    rw [if_pos (show (ers ts).length = d.np by rw [ers_length, e2, m2])] at q
    rw [← hns] at q
    have ec : ctxOf fns consts fuel lvl = { call := runFn fns consts fuel lvl, fuel := fuel, consts := consts, rb := fun g => (fns[g]?.map FnDef.rb).getD [] } := rfl
    rw [← ec] at q
    have e3 : ts.length = d.np := by rw [e2, m2]
    cases ho : exB (ctxOf fns consts fuel lvl) d.body ((ers ts).map some ++ List.replicate (N.length - ts.length) none) with
    | nx env' =>
      rw [ho] at q
      simp only at q
      intro Z' H' σ' ev' ee a
      cases hf : finals d.np env' with
      | none => rw [hf] at q; exact q.elim
      | some fin =>
        rw [hf] at q
        rw [← ee] at hf
        obtain ⟨us, u1, u2, u3, u4⟩ := finals_us hf
        exact q Z' H' us (.imm .non .none) u2 rfl (fret e3 m10 st0 a u1 u3 u4 (fun x z => by cases z; exact .imm .non) (fun x hx => by have := a.old x hx; rw [ev0_cnt] at this; simp [VS.oc, VS.T.cnt]; omega) (fun x => by have := a.st.one x; simp [VS.oc, VS.T.cnt]; omega))
    | rt dd env' =>
      rw [ho] at q
      simp only at q
      intro Z' H' σ' ev' t et ee a hdt k1 k2
      cases hf : finals d.np env' with
      | none => rw [hf] at q; exact q.elim
      | some fin =>
        rw [hf] at q
        rw [← ee] at hf
        obtain ⟨us, u1, u2, u3, u4⟩ := finals_us hf
        exact q Z' H' us t u2 et (fret e3 m10 st0 a u1 u3 u4 (fun x z => by cases z; exact hdt) (fun x hx => by have := k1 x hx; rw [ev0_cnt] at this; exact this) (fun x => k2 x))
    | exn xx env' =>
      rw [ho] at q
      simp only at q
      intro Z' H' σ' ev' cls dd ee a hx
      cases hf : finals d.np env' with
      | none => rw [hf] at q; exact q.elim
      | some fin =>
        rw [hf] at q
        rw [← ee] at hf
        obtain ⟨us, u1, u2, u3, u4⟩ := finals_us hf
        exact q Z' H' us cls dd u2 (fret e3 m10 st0 a u1 u3 u4 (fun x z => by cases z) (fun x hx => by have := a.old x hx; rw [ev0_cnt] at this; simp [VS.oc]; omega) (fun x => by have := a.st.one x; simp [VS.oc]; omega)) hx
    | bk env' => rw [ho] at q; exact q.elim
    | stuck => rw [ho] at q; exact q.elim
end VS

/-! VS18: the law's call. -/
set_option linter.all false
set_option autoImplicit false
set_option maxRecDepth 100000
set_option maxHeartbeats 8000000
namespace VS
open PySem PySem.Spec PyProof.Rows L2
/-- a def's promise kept by the outermost call, over what is tracked -/
theorem law_at {Pg : Program} {w : World} {K : PySem.W.Frag} {mg mb : Str → Option Value} {k : Nat} {fa a : Addr} {nm : Str} {sp : Sp} {s : Shared} {vs : List Value} {ns : List Int} (inK : K.In s.heap) (gns : s.heap.Ns mainGlobals mg) (bns : s.heap.Ns builtinsNs mb) (bsame : ∀ y : Str, y ≠ "__name__" → mb y = bootBuiltins y)
    (nol : s.heap.NoLimit) (nog : s.gens = #[]) (script : s.heap.get? a = some { cls := .type "list", data := .seq vs.toArray }) (room : Room k callerA) (hfa : mg nm = some (.ref fa)) (F : ∀ base : Heap, ∃ (fb : Addr) (fd : FuncData) (ps : List Str), FnG Pg w K mg base k fb fd ps sp ∧ mg nm = some (.ref fb) ∧ L2.Binds K fd ps [])
    (H : Hp) (only : Only H) (wish : sp [.ref a] H (fun v _ => v = .bl true) fun _ _ _ => False) (hok : HOk Pg w H s.heap) (alone : ∀ b, H b ≠ none → b = a) (notK : H a ≠ none → K.lookup a = none) :
    codeAny (model Pg w) callerA (.call (.ref fa) ⟨[.ref a], []⟩) (fun r s' => r = .ok (.ret (.bool true)) ∧ OldK s.heap s'.heap ∧ s'.os = s.os ∧ AllBare s'.gens) s := by
  have free : ∀ {b : Addr} {o : Obj} {es : Array DictEntry} {ep : Nat}, s.heap.get? b = some o → o.data = .dict es ep → H b = none := fun {b o es ep} q dd => by
    cases z : H b with
    | none => rfl
    | some u =>
      have q2 := alone b (by rw [z]; simp)
      rw [q2, script] at q
      cases q
      cases dd
  have ns2 : ∀ {b : Addr} {m : Str → Option Value}, s.heap.Ns b m → (hidT s.heap H).Ns b m := fun {b m} ⟨o, es, ep, q, dd, r⟩ => ⟨o, es, ep, hidT_get q (free q dd), dd, r⟩
  have inB : K.In (hidT s.heap H) := fun b o q => hidT_get (inK b o q) (by
    cases z : H b with
    | none => rfl
    | some u =>
      have q2 := alone b (by rw [z]; simp)
      rw [q2] at q z
      rw [notK (by rw [z]; simp)] at q
      cases q)
  have md : L2.Mod K mg (hidT s.heap H) := ⟨inB, ns2 gns, ⟨mb, ns2 bns, bsame⟩, by
    obtain ⟨mc, l1, l2⟩ := nol
    exact ⟨mc, ns2 l1, l2⟩⟩
  have ent : Env0 Pg w K mg (hidT s.heap H) callerA [] s H := ⟨rfl, md, fun b o q => of_hidT q, Nat.le_of_eq (hidT_size _ _), trivial, fun b hb => absurd (show b ∈ ([] : List Addr) from hb) (by simp), hok, .of_eq nog⟩
  obtain ⟨fb, fd, ps, F1, F2, F3⟩ := F (hidT s.heap H)
  have F2 := F2.symm.trans hfa
  cases F2
  have one := F1.len _ _ _ _ wish
  have run := F1.run callerA [] s H ⟨[.ref a], []⟩ [.ref a] [.ref a] _ _ room rfl ent (F3 s [.ref a] inK (by simpa using one)) (.cons rfl .nil) wish
  refine codeAny_mono run fun r s' hh => ?_
  match r, hh with
  | .error e, ⟨_, _, _, _, _, _, _, _, _, _, _, _, z⟩ => exact z.elim
  | .ok .next, z => exact False.elim z
  | .ok .brk, z => exact False.elim z
  | .ok .cont, z => exact False.elim z
  | .ok (.ret u), ⟨v, H', os, bare, un, hok', rv, tr⟩ =>
    have tr : v = .bl true := tr
    subst tr
    have rv : u = Value.bool true := rv
    subst rv
    refine ⟨rfl, OldK.of_keep fun b o q => ?_, os, bare⟩
    cases z : H b with
    | none => exact un.keep b o q z (by intro y; exact absurd (show b ∈ ([] : List Addr) from y) (by simp)) (by simp)
    | some u =>
      rcases only b with y | ⟨ob, xs, y⟩
      · rw [z] at y; cases y
      · have y2 := un.frzs b ob _ y
        have g1 := (hok b _ y).1
        have g2 := (hok' b _ y2).1
        rw [q] at g1
        cases g1
        exact g2
/-- the outermost call with the script -/
theorem law_g {Pg : Program} {w : World} {K : PySem.W.Frag} {mg mb : Str → Option Value} {k : Nat} {fa a : Addr} {nm : Str} {sp : Sp} {s : Shared} {vs : List Value} {ns : List Int} (inK : K.In s.heap) (gns : s.heap.Ns mainGlobals mg) (bns : s.heap.Ns builtinsNs mb) (bsame : ∀ y : Str, y ≠ "__name__" → mb y = bootBuiltins y)
    (nol : s.heap.NoLimit) (nog : s.gens = #[]) (script : s.heap.get? a = some { cls := .type "list", data := .seq vs.toArray }) (nums : IntsAre vs ns) (sz : ns.length ≤ sizeLine) (room : Room k callerA) (hfa : mg nm = some (.ref fa)) (F : ∀ base : Heap, ∃ (fb : Addr) (fd : FuncData) (ps : List Str), FnG Pg w K mg base k fb fd ps sp ∧ mg nm = some (.ref fb) ∧ L2.Binds K fd ps [])
    (wish : ∀ H : Hp, Only H → SqL K H a (ns.map V.int) → sp [.ref a] H (fun v _ => v = .bl true) fun _ _ _ => False) :
    codeAny (model Pg w) callerA (.call (.ref fa) ⟨[.ref a], []⟩) (fun r s' => r = .ok (.ret (.bool true)) ∧ OldK s.heap s'.heap ∧ s'.os = s.os ∧ AllBare s'.gens) s := by
  have rel := vals_ints nums
  have eqn := nums.length
  cases z : K.lookup a with
  | some o =>
    have q := inK a o z
    rw [script] at q
    cases q
    have no : Only (fun _ => none) := fun _ => .inl rfl
    refine law_at (ns := ns) inK gns bns bsame nol nog script room hfa F (fun _ => none) no (wish _ no (.inr ⟨_, vs.toArray, _, z, rfl, rfl, rfl, by rw [List.size_toArray, eqn]; exact sz, by simpa using rel⟩)) (fun b u y => ?_) (fun b y => absurd rfl y) fun y => absurd rfl y
    have y : (none : Option HO) = some u := y
    cases y
  | none =>
    generalize hT : (fun b => if b = a then some (HO.frz { cls := .type "list", data := .seq vs.toArray } (.lst (ns.map V.int))) else none : Hp) = T
    have at_ : T a = some (.frz { cls := .type "list", data := .seq vs.toArray } (.lst (ns.map V.int))) := by rw [← hT]; exact if_pos rfl
    have off : ∀ b, b ≠ a → T b = none := fun b hb => by rw [← hT]; exact if_neg hb
    have no : Only T := fun b => by
      by_cases hb : b = a
      · rw [hb]; exact .inr ⟨_, _, at_⟩
      · exact .inl (off b hb)
    refine law_at (ns := ns) inK gns bns bsame nol nog script room hfa F T no (wish _ no (.inl (.inr ⟨_, at_⟩))) (fun b u y => ?_) (fun b y => ?_) fun _ => z
    · by_cases hb : b = a
      · subst hb
        rw [at_] at y
        cases y
        exact ⟨script, by rw [List.length_map]; exact sz, vs, _, rel, script⟩
      · rw [off b hb] at y; cases y
    · by_cases hb : b = a
      · exact hb
      · exact absurd (off b hb) y
/-- what the head leaves, by the evaluator's answer -/
theorem walk_v {l : PySem.W.OpenLaw} {n : Nat} {q : Program} {loose : List Str} {XP : (Str → Option Value) → Heap → Prop} {YP : World → Heap → Prop} {d : DefRec} {fns : List FnDef} {tab : List (Str × Nat)} {gcs : List Str} {consts : List C} {g k : Nat}
    (hn : l.most = some n) (hz : n ≤ sizeLine) (hdf : d.params.defaults = []) (room : Room k callerA) (ht : tab[g]? = some (d.name, 1))
    (F : ∀ (w : World) (mg : Str → Option Value) (h : Heap), YP w h → h.Ns mainGlobals mg → ∃ K : PySem.W.Frag, K.In h ∧ Prg K mg fns tab gcs consts)
    (pure : ∀ ns : List Int, ns.length ≤ n → ∃ fuel fin, runFn fns consts fuel k g [.imm (.list (ns.map .int))] = .ok (.imm (.bool true)) fin) :
    PySem.W.WalkO q loose XP YP l.row.toRowW d [] (fun f vs => PySem.call f vs) := by
  refine Att.attach_call hn hdf fun w s₀ s₁ mg mb fa o pm cd doc a vs ns G Y ho hd hcd hmg hobj hints hlen hg => ?_
  obtain ⟨K, inK, M⟩ := F w mg _ Y G.T.g
  obtain ⟨fuel, fin, ans⟩ := pure ns hlen
  refine law_g (sp := spF K (fun _ _ _ _ _ => False) (runFn fns consts fuel k g) (rbs fns g) 1) inK G.T.g G.T.b G.T.builtins G.T.nolimit hg hobj hints (Nat.le_trans hlen hz) room hmg (fun base => ?_) fun H only sq => ?_
  · obtain ⟨fb, fd, ps, F1, F2, _, F4⟩ := fn_vs (Pg := l.prog) (w := w) (base := base) (fun _ _ _ _ _ => False) fuel M k g d.name 1 ht
    exact ⟨fb, fd, ps, F1, F2, F4⟩
  have sz : SqZ K (fun _ => False) H a (ns.map V.int) := by
    rcases sq with (z | ⟨o, z⟩) | z
    · rcases only a with y | ⟨_, _, y⟩ <;> rw [z] at y <;> cases y
    · exact .inr (.inl ⟨o, z⟩)
    · exact .inr (.inr z)
  have rcs : ∀ ns : List Int, RCs K (fun _ => False) H (ns.map V.int) (ns.map .int) := fun ns => by
    induction ns with
    | nil => exact .nil
    | cons i r ih => exact .cons (.int i) ih
  refine ⟨fun _ => False, [.imm (.ref a) (.list (ns.map .int))], rfl, rfl, fun _ z => z.elim, .cons (.imm (.lst sz (rcs ns))) .nil, fun b => by simp [cnts, VS.T.cnt], ?_⟩
  have e : ers [VS.T.imm (.ref a) (.list (ns.map .int))] = [.imm (.list (ns.map .int))] := by simp [ers, VS.T.er]
  rw [e, ans]
  intro Z' H' us t _ et fr
  obtain ⟨v, rfl⟩ := er_imm et
  exact rc_bool (holds_imm (fr.hdt _ rfl) rfl)
end VS

/-! VS19: helpers for a law's tables. -/
set_option linter.all false
set_option autoImplicit false
set_option maxRecDepth 100000
namespace VS
open PySem PySem.Spec PyProof.Rows L2
theorem rb_ok {rb : List Bool} {A : List Nat} (h : ((List.range rb.length).all fun j => rb[j]? == some true || !A.contains j) = true) : ∀ j : Nat, rb[j]? = some false → j ∉ A := fun j hj hm => by
  have hl : j < rb.length := (List.getElem?_eq_some_iff.mp hj).1
  have := List.all_eq_true.mp h j (List.mem_range.mpr hl)
  rw [hj] at this
  simp [List.contains_iff_mem, hm] at this
theorem fun_fact {K : PySem.W.Frag} {mg : Str → Option Value} {x : Str} {prm : Arguments} {bdy : List Stmt} {scp : Scope} {f : Addr} {fd : FuncData} {N ps : List Str} {fns : List FnDef} {tab : List (Str × Nat)} {gcs : List Str} {g n np : Nat} {d : FnDef}
    (F : FunD K x x prm bdy scp [] [] f fd) (hm : mg x = some (.ref f)) (S : FnScope N ps scp) (ok : all2 (mS ⟨N, tab, gcs⟩ n scp) bdy d.body = true) (rb : ∀ j : Nat, d.rb[j]? = some false → j ∉ asgB d.body) (h1 : N.length = d.ns) (h2 : ps.length = d.np) (h3 : fns[g]? = some d) (h4 : d.np = np)
    (hb : ∀ (kV doc pm : Value) (an : Option Addr) (cdv ct : Value) (us : List Value), us.length = ps.length → bindArgs (PySem.W.fnOf x x prm bdy scp .none kV doc pm an cdv ct) ⟨us, []⟩ = pure (ps.zip us)) :
    ∃ (d : FnDef) (fa : Addr) (nme ql : Str) (prm : Arguments) (bdy : List Stmt) (scp : Scope) (dV kV doc pm cdv ct oc : Value) (an od : Option Addr) (osl : Array (Option Value)) (N ps : List Str) (n : Nat),
    fns[g]? = some d ∧ d.np = np ∧ mg x = some (.ref fa) ∧ PySem.W.keepIn K (.ref fa) = true ∧ K.lookup fa = some ⟨oc, od, .func (PySem.W.fnOf nme ql prm bdy scp dV kV doc pm an cdv ct), osl⟩ ∧ PySem.W.codeIn K cdv ql = true ∧ FnScope N ps scp ∧ N.length = d.ns ∧ ps.length = d.np ∧
      (∀ j : Nat, d.rb[j]? = some false → j ∉ asgB d.body) ∧ all2 (mS ⟨N, tab, gcs⟩ n scp) bdy d.body = true ∧ L2.Binds K (PySem.W.fnOf nme ql prm bdy scp dV kV doc pm an cdv ct) ps [] := by
  have B := F.bindsN hb
  obtain ⟨oc, od, dV, kV, doc, pm, an, cdv, ct, osl, rfl, lk, cd, _, _⟩ := F.ex
  exact ⟨d, f, x, x, prm, bdy, scp, dV, kV, doc, pm, cdv, ct, oc, an, od, osl, N, ps, n, h3, h4, hm, F.kp, lk, cd, S, h1, h2, rb, ok, B⟩
end VS

set_option linter.all false
set_option autoImplicit false
set_option maxRecDepth 100000
set_option Elab.async false
namespace V51
open PySem PySem.Spec PyProof.Rows L2 VS
def top (i : Nat) : Stmt := PySem.Challenge.pw_cutstand_k51_the_cut_of_a_number.main.body.getD i (.Pass ⟨0, 0, 0, 0⟩)
abbrev nm0 : List Str := ["choices", "numbers", "number", "found", "row", "own", "places", "place", "one"]
def fn0 : FnDef := ⟨3, 9, [false, false, false], [
    .asg 3 (.lst []),
    .fors (.t [(.v 4), (.v 5)]) (.zip (.var 0) (.var 1)) [(.asg 6 (.comp (.fz 7) (.t [(.v 7), (.v 8)]) (.zip (.var 4) (.var 5)) (some (.cmp .GtE (.var 8) (.var 2))) [7, 8])), (.ex (.mut .append 3 [] [(.idx (.bin .Add (.var 6) (.lst [(.idx (.var 4) (.neg (.int 1)))])) (.int 0))]))],
    .ret (.bi .tuple_ [(.var 3)])]⟩
abbrev nm1 : List Str := ["_law_script"]
def fn1 : FnDef := ⟨1, 1, [false], [
    .ret (.lst [(.bin .Add (.slc (.var 0) none (some (.int 63))) (.bin .Mult (.lst [(.int 0)]) (.bi .int_ [(.cmp .Eq (.var 0) (.lst []))]))), (.int 0), (.int 0), (.int 0)])]⟩
abbrev nm2 : List Str := ["_law_feed_here", "_law_many", "_law_cell", "_law_turn", "_law_mixed", "_law_found"]
def fn2 : FnDef := ⟨2, 6, [false, false], [
    .setI 0 [] (.int 3) (.bin .Add (.idx (.var 0) (.int 3)) (.int 1)),
    .ifs (.cmp .Gt (.idx (.var 0) (.int 2)) (.int 0)) [(.asg 5 (.bin .Mod (.idx (.var 0) (.int 2)) (.var 1))), (.setI 0 [] (.int 2) (.bin .FloorDiv (.idx (.var 0) (.int 2)) (.var 1))), (.ret (.mv 5))] [],
    .asg 2 (.idx (.idx (.var 0) (.int 0)) (.bin .Mod (.idx (.var 0) (.int 1)) (.bi .len [(.idx (.var 0) (.int 0))]))),
    .setI 0 [] (.int 1) (.bin .Add (.idx (.var 0) (.int 1)) (.int 1)),
    .ifs (.cmp .GtE (.var 2) (.bin .Pow (.int 10) (.int 18))) [(.setI 0 [] (.int 2) (.bin .FloorDiv (.var 2) (.var 1))), (.ret (.bin .Mod (.var 2) (.var 1)))] [],
    .asg 3 (.bin .Add (.bin .Add (.bin .Mult (.bin .Mult (.int 31) (.idx (.var 0) (.int 3))) (.idx (.var 0) (.int 3))) (.bin .Mult (.int 7919) (.idx (.var 0) (.int 3)))) (.int 1)),
    .asg 4 (.bin .Mod (.bin .Mult (.bin .Add (.bin .Mod (.var 2) (.int 2147483629)) (.int 1)) (.var 3)) (.int 2147483647)),
    .asg 4 (.bin .Add (.bin .Mult (.var 4) (.bin .Add (.bin .Mod (.var 4) (.int 65521)) (.int 48271))) (.idx (.var 0) (.int 3))),
    .ret (.bin .Mod (.bin .FloorDiv (.bin .Mod (.var 4) (.int 2147483629)) (.int 7)) (.var 1))]⟩
abbrev nm3 : List Str := ["_law_script", "_law_feed_here", "_law_choices", "_law_numbers", "_law_m", "_law_number", "_law_row", "_law_own", "_law_k", "_law_due", "_law_place"]
def fn3 : FnDef := ⟨1, 11, [false], [
    .asg 1 (.call 1 [(.var 0)]),
    .asg 2 (.lst []),
    .asg 3 (.lst []),
    .fors (.v 4) (.range [(.bin .Add (.int 1) (.call 2 [(.var 1), (.int 4)]))]) [(.asg 6 (.lst [(.int 0)])), (.asg 7 (.lst [(.call 2 [(.var 1), (.int 5)])])), (.fors (.v 8) (.range [(.call 2 [(.var 1), (.int 8)])]) [(.ex (.mut .append 6 [] [(.bin .Add (.bin .Add (.idx (.var 6) (.neg (.int 1))) (.int 1)) (.call 2 [(.var 1), (.int 4)]))])), (.ex (.mut .append 7 [] [(.bin .Add (.bin .Add (.idx (.var 7) (.neg (.int 1))) (.int 1)) (.call 2 [(.var 1), (.int 5)]))]))]), (.ex (.mut .append 2 [] [(.bi .tuple_ [(.var 6)])])), (.ex (.mut .append 3 [] [(.bi .tuple_ [(.var 7)])]))],
    .fors (.v 5) (.seq (.lst [(.bin .Sub (.call 2 [(.var 1), (.int 33)]) (.int 2)), (.bin .Sub (.call 2 [(.var 1), (.int 33)]) (.int 2)), (.bin .Sub (.bin .Pow (.int 10) (.int 60)) (.int 1)), (.neg (.bin .Pow (.int 10) (.int 59))), (.idx (.idx (.var 3) (.int 0)) (.neg (.int 1)))])) [(.asg 9 (.lst [])), (.fors (.t [(.v 6), (.v 7)]) (.zip (.var 2) (.var 3)) [(.asg 10 (.idx (.var 6) (.neg (.int 1)))), (.fors (.v 8) (.down [(.bin .Sub (.bi .len [(.var 6)]) (.int 1)), (.neg (.int 1)), (.neg (.int 1))]) [(.ifs (.cmp .GtE (.idx (.var 7) (.var 8)) (.var 5)) [(.asg 10 (.idx (.var 6) (.var 8)))] [])]), (.ex (.mut .append 9 [] [(.mv 10)]))]), (.ifs (.cmp .NotEq (.bi .repr_ [(.call 0 [(.bi .tuple_ [(.var 2)]), (.bi .tuple_ [(.var 3)]), (.var 5)])]) (.bi .repr_ [(.bi .tuple_ [(.var 9)])])) [(.ret (.bl false))] [])],
    .ret (.bl true)]⟩
abbrev fns : List FnDef := [fn0, fn1, fn2, fn3]
abbrev tab : List (Str × Nat) := [("line_by", 3), ("_law_feed", 1), ("_law_draw", 2), ("law", 1)]
/-! ### the text is that of the small syntax -/
theorem sc0 : FnScope nm0 ["choices", "numbers", "number"] (defScope (top 1)) := ⟨rfl, rfl, rfl, by decide +kernel, rfl, by decide +kernel, by decide +kernel⟩
theorem ok0 : all2 (mS ⟨nm0, tab, []⟩ 40 (defScope (top 1))) (defBody (top 1)) fn0.body = true := by decide +kernel
theorem rb0 : ∀ j : Nat, fn0.rb[j]? = some false → j ∉ asgB fn0.body := rb_ok (by decide +kernel)
theorem sc1 : FnScope nm1 ["_law_script"] (defScope (top 3)) := ⟨rfl, rfl, rfl, by decide +kernel, rfl, by decide +kernel, by decide +kernel⟩
theorem ok1 : all2 (mS ⟨nm1, tab, []⟩ 40 (defScope (top 3))) (defBody (top 3)) fn1.body = true := by decide +kernel
theorem rb1 : ∀ j : Nat, fn1.rb[j]? = some false → j ∉ asgB fn1.body := rb_ok (by decide +kernel)
theorem sc2 : FnScope nm2 ["_law_feed_here", "_law_many"] (defScope (top 4)) := ⟨rfl, rfl, rfl, by decide +kernel, rfl, by decide +kernel, by decide +kernel⟩
theorem ok2 : all2 (mS ⟨nm2, tab, []⟩ 40 (defScope (top 4))) (defBody (top 4)) fn2.body = true := by decide +kernel
theorem rb2 : ∀ j : Nat, fn2.rb[j]? = some false → j ∉ asgB fn2.body := rb_ok (by decide +kernel)
theorem sc3 : FnScope nm3 ["_law_script"] (defScope (top 5)) := ⟨rfl, rfl, rfl, by decide +kernel, rfl, by decide +kernel, by decide +kernel⟩
theorem ok3 : all2 (mS ⟨nm3, tab, []⟩ 40 (defScope (top 5))) (defBody (top 5)) fn3.body = true := by decide +kernel
theorem rb3 : ∀ j : Nat, fn3.rb[j]? = some false → j ∉ asgB fn3.body := rb_ok (by decide +kernel)
def d0 : He.DefD := ⟨("line_by", none), "line_by", "line_by", defArgs (top 1), defBody (top 1), defScope (top 1), [], []⟩
def d1 : He.DefD := ⟨("_law_feed", none), "_law_feed", "_law_feed", defArgs (top 3), defBody (top 3), defScope (top 3), [], []⟩
def d2 : He.DefD := ⟨("_law_draw", none), "_law_draw", "_law_draw", defArgs (top 4), defBody (top 4), defScope (top 4), [], []⟩
def d3 : He.DefD := ⟨("law", none), "law", "law", defArgs (top 5), defBody (top 5), defScope (top 5), [], []⟩
def ds : List He.DefD := [d0, d1, d2, d3]
def facts : List He.Fa := [.glo "line_by", .glo "_law_feed", .glo "_law_draw", .glo "law", .free "len", .free "int", .free "max", .free "min", .free "repr", .free "tuple", .free "list", .free "all", .free "any", .free "sum", .free "str", .free "dict", .free "sorted", .free "set", .free "range", .free "zip"]
abbrev R : PySem.W.OpenRow := PySem.W.OpenLaw.row PySem.Challenge.rw_cutstand_k51_the_cut_of_a_number
abbrev hk : PySem.W.Hook := He.hookD 4 facts ds
def ob (s : PySem.W.SharedT) : He.AlD := He.obsDG 4 facts ds (HandSHeadRun.getT s)
theorem ob_eq (s : PySem.W.SharedT) : ob s = hk.obs s.abs := He.obsDG_eq (HandSHeadRun.getT_eq s)
theorem run (w : World) : HandSHeadRun.RunEq R (PySem.W.view R.prog [5]) hk ob 2000 ["line_by", "_law_feed", "_law_draw"] w := by
  intro os
  kernel_rfl
theorem prg {K : PySem.W.Frag} {h : Heap} {mg : Str → Option Value} (X : K.In h) (G : h.Ns mainGlobals mg) (c : He.SaysD facts ds K) : Prg K mg fns tab [] [] where
  gc := fun g x h => by simp at h
  bi := fun b => by
    cases b
    · exact He.free_ok X G (c.fact 4 (f := .free "len") rfl)
    · exact He.free_ok X G (c.fact 5 (f := .free "int") rfl)
    · exact He.free_ok X G (c.fact 6 (f := .free "max") rfl)
    · exact He.free_ok X G (c.fact 7 (f := .free "min") rfl)
    · exact He.free_ok X G (c.fact 8 (f := .free "repr") rfl)
    · exact He.free_ok X G (c.fact 9 (f := .free "tuple") rfl)
    · exact He.free_ok X G (c.fact 10 (f := .free "list") rfl)
    · exact He.free_ok X G (c.fact 11 (f := .free "all") rfl)
    · exact He.free_ok X G (c.fact 12 (f := .free "any") rfl)
    · exact He.free_ok X G (c.fact 13 (f := .free "sum") rfl)
    · exact He.free_ok X G (c.fact 14 (f := .free "str") rfl)
    · exact He.free_ok X G (c.fact 15 (f := .free "dict") rfl)
    · exact He.free_ok X G (c.fact 16 (f := .free "sorted") rfl)
    · exact He.free_ok X G (c.fact 17 (f := .free "set") rfl)
  rg := He.free_ok X G (c.fact 18 (f := .free "range") rfl)
  zp := He.free_ok X G (c.fact 19 (f := .free "zip") rfl)
  fn := fun g x np h => by
    match g, h with
    | 0, h =>
      simp only [List.getElem?_cons_zero, List.getElem?_cons_succ, Option.some.injEq, Prod.mk.injEq] at h
      obtain ⟨rfl, rfl⟩ := h
      obtain ⟨fd, F⟩ := c.def_ 0 (d := d0) rfl
      exact fun_fact F (He.glo_ok X G (c.fact 0 (f := .glo "line_by") rfl)) sc0 ok0 rb0 rfl rfl rfl rfl fun _ _ _ _ _ _ us hl => match us, hl with | [_, _, _], _ => rfl
    | 1, h =>
      simp only [List.getElem?_cons_zero, List.getElem?_cons_succ, Option.some.injEq, Prod.mk.injEq] at h
      obtain ⟨rfl, rfl⟩ := h
      obtain ⟨fd, F⟩ := c.def_ 1 (d := d1) rfl
      exact fun_fact F (He.glo_ok X G (c.fact 1 (f := .glo "_law_feed") rfl)) sc1 ok1 rb1 rfl rfl rfl rfl fun _ _ _ _ _ _ us hl => match us, hl with | [_], _ => rfl
    | 2, h =>
      simp only [List.getElem?_cons_zero, List.getElem?_cons_succ, Option.some.injEq, Prod.mk.injEq] at h
      obtain ⟨rfl, rfl⟩ := h
      obtain ⟨fd, F⟩ := c.def_ 2 (d := d2) rfl
      exact fun_fact F (He.glo_ok X G (c.fact 2 (f := .glo "_law_draw") rfl)) sc2 ok2 rb2 rfl rfl rfl rfl fun _ _ _ _ _ _ us hl => match us, hl with | [_, _], _ => rfl
    | 3, h =>
      simp only [List.getElem?_cons_zero, List.getElem?_cons_succ, Option.some.injEq, Prod.mk.injEq] at h
      obtain ⟨rfl, rfl⟩ := h
      obtain ⟨fd, F⟩ := c.def_ 3 (d := d3) rfl
      exact fun_fact F (He.glo_ok X G (c.fact 3 (f := .glo "law") rfl)) sc3 ok3 rb3 rfl rfl rfl rfl fun _ _ _ _ _ _ us hl => match us, hl with | [_], _ => rfl
    | g + 4, h => simp at h
end V51

set_option linter.all false
set_option autoImplicit false
set_option maxRecDepth 100000
set_option maxHeartbeats 4000000
namespace V51
open PySem VS
abbrev iI (i : Int) : D := .imm (.int i)
def fd (cells : List Int) (p q r : Int) : D := .lst [.lst (cells.map iI), iI p, iI q, iI r]
theorem runFn_succ {fs : List FnDef} {cs : List C} {fuel n f : Nat} {ds : List D} {d : FnDef} (h : fs[f]? = some d) (hl : ds.length = d.np) : runFn fs cs fuel (n + 1) f ds = (match exB (ctxOf fs cs fuel n) d.body (ds.map some ++ List.replicate (d.ns - d.np) none) with
        | .nx env => match finals d.np env with
          | some fin => .ok (.imm .none) fin
          | none => .stuck
        | .rt x env => match finals d.np env with
          | some fin => .ok x fin
          | none => .stuck
        | .exn x env => match finals d.np env with
          | some fin => .exn x fin
          | none => .stuck
        | _ => .stuck) := by
  simp only [runFn, h, hl, if_true]
  rfl
theorem imms_int : ∀ xs : List Int, imms (xs.map iI) = some (xs.map .int)
  | [] => rfl
  | x :: xs => by simp [imms, imms_int xs]
theorem item_int {cells : List Int} {i : Int} (h0 : 0 ≤ i) (h1 : i < cells.length) : ∃ c, L2.atI (cells.map iI) i = some (iI c) := by
  have hl : i.toNat < cells.length := by omega
  refine ⟨cells[i.toNat], ?_⟩
  simp only [L2.atI, L2.ixN, List.length_map, h0, if_true]
  rw [if_pos (by omega)]
  simp [hl]
theorem it_lst (xs : List D) (i : Int) : D.item? (.lst xs) (.imm (.int i)) = L2.atI xs i := rfl
theorem it_tup (xs : List C) (i : Int) : D.item? (.imm (.tuple xs)) (.imm (.int i)) = L2.atI (xs.map .imm) i := rfl
theorem at0 {α : Type} (a : α) (r : List α) : L2.atI (a :: r) 0 = some a := by
  unfold L2.atI L2.ixN
  rw [if_pos (by decide), if_pos (by simp only [List.length_cons]; omega)]
  rfl
theorem at1 {α : Type} (a b : α) (r : List α) : L2.atI (a :: b :: r) 1 = some b := by
  unfold L2.atI L2.ixN
  rw [if_pos (by decide), if_pos (by simp only [List.length_cons]; omega)]
  rfl
theorem at2 {α : Type} (a b c : α) (r : List α) : L2.atI (a :: b :: c :: r) 2 = some c := by
  unfold L2.atI L2.ixN
  rw [if_pos (by decide), if_pos (by simp only [List.length_cons]; omega)]
  rfl
theorem at3 {α : Type} (a b c d : α) (r : List α) : L2.atI (a :: b :: c :: d :: r) 3 = some d := by
  unfold L2.atI L2.ixN
  rw [if_pos (by decide), if_pos (by simp only [List.length_cons]; omega)]
  rfl
theorem draw {X : VS.Ctx} {cells : List Int} {p q r m : Int} (hc : cells ≠ []) (h1 : 0 < m) (h2 : m < 1073741824) (h3 : 0 ≤ r) (h4 : r < 1000000) :
    ∃ v p' q' e3 e4 e5 e6, 0 ≤ v ∧ v < m ∧ exB X fn2.body [some (fd cells p q r), some (iI m), none, none, none, none] = .rt (iI v) [some (fd cells p' q' (r + 1)), some (iI m), e3, e4, e5, e6] := by
  have hl : (0 : Int) < cells.length := by
    have : cells.length ≠ 0 := fun z => hc (List.length_eq_zero_iff.mp z)
    omega
  obtain ⟨c, hcell⟩ := item_int (cells := cells) (i := p % cells.length) (Int.emod_nonneg _ (by omega)) (Int.emod_lt_of_pos _ hl)
  have hcell' : L2.atI (cells.map fun i => D.imm (.int i)) (p % cells.length) = some (.imm (.int c)) := hcell
  have hl' : 0 < cells.length := by omega
  unfold fn2 fd
  by_cases hq : 0 < q
  · refine ⟨q % m, p, q / m, none, none, none, some (iI (q % m)), Int.emod_nonneg _ (by omega), Int.emod_lt_of_pos _ h1, ?_⟩
    simp [exB, exS, stSet, stIf, stAsg, evOne, evE, evs, ev2, evL, evN, isVar, rd, VS.R.bind, VS.R.out, VS.R.of, isImm, bw, triv, trivs, oSeq, binD, binC, it_lst, at0, at1, at2, at3, L2.ixN, VS.putAt, VS.setD, VS.ixN, small, cmpD, cmpK, biD, hq, h1, h2, iI, evMv]
  · by_cases hb : (10 : Int) ^ 18 ≤ c
    · refine ⟨c % m, p + 1, c / m, some (iI c), none, none, none, Int.emod_nonneg _ (by omega), Int.emod_lt_of_pos _ h1, ?_⟩
      have hb' : (1000000000000000000 : Int) ≤ c := by simpa using hb
      simp [exB, exS, stSet, stIf, stAsg, evOne, evE, evs, ev2, evL, evN, isVar, rd, VS.R.bind, VS.R.out, VS.R.of, isImm, bw, triv, trivs, oSeq, binD, binC, it_lst, at0, at1, at2, at3, L2.ixN, VS.putAt, VS.setD, VS.ixN, small, cmpD, cmpK, biD, D.seq?, D.list?, hq, h1, h2, iI, hl, hl', hcell, hcell', hb, hb']
    · have hb' : ¬ (1000000000000000000 : Int) ≤ c := by simpa using hb
      have b1 : (-(2 ^ 64 : Int) < c % 2147483629 + 1 ∧ c % 2147483629 + 1 < 2 ^ 64) := by omega
      refine ⟨_, p + 1, q, some (iI c), some (iI (31 * (r + 1) * (r + 1) + 7919 * (r + 1) + 1)), some (iI ((((c % 2147483629 + 1) * (31 * (r + 1) * (r + 1) + 7919 * (r + 1) + 1)) % 2147483647) * ((((c % 2147483629 + 1) * (31 * (r + 1) * (r + 1) + 7919 * (r + 1) + 1)) % 2147483647) % 65521 + 48271) + (r + 1))), none, Int.emod_nonneg (((((c % 2147483629 + 1) * (31 * (r + 1) * (r + 1) + 7919 * (r + 1) + 1)) % 2147483647) * ((((c % 2147483629 + 1) * (31 * (r + 1) * (r + 1) + 7919 * (r + 1) + 1)) % 2147483647) % 65521 + 48271) + (r + 1)) % 2147483629 / 7) (by omega), Int.emod_lt_of_pos _ h1, ?_⟩
      have s1 : small 31 = true := by decide
      have s2 : small 7919 = true := by decide
      have s3 : small (c % 2147483629 + 1) = true := decide_eq_true b1
      have s4 : small (r + 1) = true := decide_eq_true (by omega)
      have s5 : small ((c % 2147483629 + 1) * (31 * (r + 1) * (r + 1) + 7919 * (r + 1) + 1) % 2147483647) = true := by
        generalize (c % 2147483629 + 1) * (31 * (r + 1) * (r + 1) + 7919 * (r + 1) + 1) = T
        exact decide_eq_true (by omega)
      simp [exB, exS, stSet, stIf, stAsg, evOne, evE, evs, ev2, evL, evN, isVar, rd, VS.R.bind, VS.R.out, VS.R.of, isImm, bw, triv, trivs, oSeq, binD, binC, it_lst, at0, at1, at2, at3, L2.ixN, VS.putAt, VS.setD, VS.ixN, cmpD, cmpK, biD, D.seq?, D.list?, hq, h1, h2, iI, hl, hl', hcell, hcell', hb, hb', s1, s2, s3, s4, s5]
theorem ok_ints (ns : List Int) : okEq (.list (ns.map .int)) = true := by
  have h1 : ∀ ns : List Int, PyData.canLayAll0 (ns.map .int) = true := fun ns => by
    induction ns with
    | nil => rfl
    | cons a r ih => simp [PyData.canLayAll0, PyData.canLay0, ih]
  have h2 : ∀ ns : List Int, PyData.depthAll (ns.map .int) = 0 := fun ns => by
    induction ns with
    | nil => rfl
    | cons a r ih => simp [PyData.depthAll, PyData.depth, ih]
  unfold okEq SeqAt.shaped
  simp [PyData.canLay0, PyData.depth, h1, h2]
theorem slice63 {ns : List Int} (h : ns.length ≤ 63) : sliceD (.imm (.list (ns.map .int))) none (some 63) = some (.lst (ns.map iI)) := by
  have e : imms (List.map D.imm (ns.map PyData.int)) = some (ns.map .int) := VS.imms_map _
  simp only [sliceD, D.list?, e, List.length_map, HT.sIx, Nat.sub_zero, List.drop_zero]
  rw [if_neg (by decide)]
  rw [List.take_of_length_le (by simp; omega), List.map_map]
  rfl
theorem eq_nil {ns : List Int} (h : ns ≠ []) : eqD (.imm (.list (ns.map .int))) (.lst []) = some false := by
  have ok0 : okEq (.list []) = true := ok_ints []
  simp only [eqD, D.c?, cs?, Option.map_some, ok_ints, ok0, Bool.and_self, if_true]
  cases ns with
  | nil => exact absurd rfl h
  | cons a r => rfl
theorem cat_nil {ns : List Int} (h : ns.length ≤ 63) : catD (.lst (ns.map iI)) (.lst []) = some (.lst (ns.map iI)) := by
  simp only [catD, D.list?, imms_int, imms, List.length_map, List.length_nil, Nat.add_zero, List.append_nil, List.map_map]
  rw [if_pos (by unfold sizeLine; omega)]
  rfl
theorem feed {X : VS.Ctx} (ns : List Int) (hn : ns.length ≤ 63) : ∃ cells, cells ≠ [] ∧ exB X fn1.body [some (.imm (.list (ns.map .int)))] = .rt (fd cells 0 0 0) [some (.imm (.list (ns.map .int)))] := by
  by_cases h0 : ns = []
  · subst h0
    have ok0 : okEq (.list []) = true := ok_ints []
    refine ⟨[0], by simp, ?_⟩
    unfold fn1 fd
    simp [exB, exS, evOne, evE, evs, evo, evO, ev2, evL, evN, evSlc, evHi, isVar, rd, VS.R.bind, VS.R.out, VS.R.of, isImm, bw, triv, trivs, oSeq, binD, binC, catD, repD, cmpD, cmpK, eqD, biD, D.seq?, D.list?, D.tuple?, D.c?, cs?, imms, ok0, PyData.eqv, PyData.eqvAll, sliceD, HT.sIx, sizeLine]
  · refine ⟨ns, h0, ?_⟩
    unfold fn1 fd
    have e1 := slice63 hn
    have e2 := eq_nil h0
    have e3 := cat_nil hn
    generalize hS : (D.imm (.list (ns.map .int))) = S at e1 e2 ⊢
    generalize hL : ns.map iI = L at e1 e3 ⊢
    have iS : isImm S = true := by rw [← hS]; rfl
    simp [exB, exS, evOne, evE, evs, evo, evO, ev2, evL, evN, evSlc, evHi, isVar, rd, VS.R.bind, VS.R.out, VS.R.of, isImm, bw, triv, trivs, oSeq, binD, binC, repD, cmpD, cmpK, biD, imms, e1, e2, e3, iS, sizeLine]
end V51

set_option linter.all false
set_option autoImplicit false
set_option maxRecDepth 100000
set_option maxHeartbeats 4000000
namespace V51
open PySem VS
theorem for_cnt {one : D → VS.Env → O} {chk : VS.Env → Prop} (P : Nat → VS.Env → Prop) (hc : ∀ k env, P k env → chk env) : ∀ (xs : List D) (k : Nat) (env : VS.Env), (∀ j x env, k ≤ j → j < k + xs.length → P j env → ∃ env', one x env = .nx env' ∧ P (j + 1) env') → P k env → ∃ env', forGo one chk xs env = .nx env' ∧ P (k + xs.length) env'
  | [], k, env, hs, h => ⟨env, by unfold forGo; rw [if_pos (hc _ _ h)], h⟩
  | x :: xs, k, env, hs, h => by
    obtain ⟨env1, e1, h1⟩ := hs k x env (Nat.le_refl _) (by simp) h
    obtain ⟨env2, e2, h2⟩ := for_cnt P hc xs (k + 1) env1 (fun j y env a b => hs j y env (by omega) (by simp; omega)) h1
    refine ⟨env2, ?_, by rw [List.length_cons]; rw [show k + (xs.length + 1) = k + 1 + xs.length by omega]; exact h2⟩
    unfold forGo
    rw [if_pos (hc _ _ h), e1]
    exact e2
theorem st_nx {X : VS.Ctx} {s : S} {ss : List S} {env env' : VS.Env} (h : exS X s env = .nx env') : exB X (s :: ss) env = exB X ss env' := by
  simp only [exB, h, oSeq]
theorem st_nil {X : VS.Ctx} {env : VS.Env} : exB X [] env = .nx env := by simp only [exB]
theorem iv_var (i : Nat) : isVar (.var i) = some i := rfl
theorem iv_idx (a b : E) : isVar (.idx a b) = none := rfl
theorem iv_bin (o : Operator) (a b : E) : isVar (.bin o a b) = none := rfl
theorem iv_int (i : Int) : isVar (.int i) = none := rfl
theorem iv_neg (a : E) : isVar (.neg a) = none := rfl
theorem iv_lst (a : List E) : isVar (.lst a) = none := rfl
theorem iv_bi (b : Bi) (a : List E) : isVar (.bi b a) = none := rfl
theorem iv_call (f : Nat) (a : List E) : isVar (.call f a) = none := rfl
theorem iv_mv (i : Nat) : isVar (.mv i) = none := rfl
theorem iv_fz (i : Nat) : isVar (.fz i) = none := rfl
theorem im_imm (c : C) : isImm (.imm c) = true := rfl
theorem im_lst (c : List D) : isImm (.lst c) = false := rfl
/-- a draw from the feed -/
def dr (m : Int) : E := .call 2 [.var 1, .int m]
theorem dr_v (m : Int) : isVar (dr m) = none := rfl
theorem dr_b (m : Int) : bw (dr m) = false := rfl
theorem dr_t (m : Int) : triv (dr m) = false := rfl
theorem draw_ev {fuel n : Nat} {env : VS.Env} {cells : List Int} {p q r m : Int} (he : env[1]? = some (some (fd cells p q r))) (hc : cells ≠ []) (h1 : 0 < m) (h2 : m < 1073741824) (h3 : 0 ≤ r) (h4 : r < 1000000) :
    ∃ v p' q', 0 ≤ v ∧ v < m ∧ evE (ctxOf fns [] fuel (n + 1)) (dr m) env = .ok (iI v) (env.set 1 (some (fd cells p' q' (r + 1)))) := by
  obtain ⟨v, p', q', e3, e4, e5, e6, v1, v2, e⟩ := draw (X := ctxOf fns [] fuel n) (p := p) (q := q) hc h1 h2 h3 h4
  refine ⟨v, p', q', v1, v2, ?_⟩
  have call : runFn fns [] fuel (n + 1) 2 [fd cells p q r, iI m] = .ok (iI v) [fd cells p' q' (r + 1), iI m] := by
    rw [runFn_succ (d := fn2) rfl rfl]
    have e0 : ([fd cells p q r, iI m].map some ++ List.replicate (fn2.ns - fn2.np) none) = [some (fd cells p q r), some (iI m), none, none, none, none] := rfl
    rw [e0, e]
    rfl
  have l : isImm (fd cells p q r) = false := rfl
  have rb : (ctxOf fns [] fuel (n + 1)).rb 2 = [false, false] := rfl
  have cl : (ctxOf fns [] fuel (n + 1)).call 2 = runFn fns [] fuel (n + 1) 2 := rfl
  simp [dr, evE, evs, evCall, evA, evOne, iv_var, iv_idx, iv_bin, iv_int, iv_neg, iv_lst, iv_bi, iv_call, iv_mv, iv_fz, rd, he, VS.R.bind, VS.R.of, im_imm, im_lst, lendOk, varsOf, l, cl, call, rb, giveBack]
def tupD (xs : List Int) : D := .imm (.tuple (xs.map .int))
theorem at_last {α : Type} (xs : List α) (h : xs ≠ []) : L2.atI xs (-1) = some (xs.getLast h) := by
  have : 0 < xs.length := List.length_pos_iff.mpr h
  unfold L2.atI L2.ixN
  rw [if_neg (by decide), if_pos (by omega)]
  have e : ((-1 : Int) + (xs.length : Int)).toNat = xs.length - 1 := by omega
  simp only [Option.bind, e]
  rw [List.getLast_eq_getElem, List.getElem?_eq_getElem]
theorem last_int (xs : List Int) (h : xs ≠ []) : L2.atI (xs.map iI) (-1) = some (iI (xs.getLast h)) := by
  rw [at_last _ (by simpa using h), List.getLast_map]
/-- the innermost turn -/
def bodyK : List S := [(.ex (.mut .append 6 [] [(.bin .Add (.bin .Add (.idx (.var 6) (.neg (.int 1))) (.int 1)) (dr 4))])), (.ex (.mut .append 7 [] [(.bin .Add (.bin .Add (.idx (.var 7) (.neg (.int 1))) (.int 1)) (dr 5))]))]
theorem turnK {fuel n : Nat} {cells row own : List Int} {p q r : Int} {S2 Ch Nu e4 e5 e8 e9 e10 : Option D} (hc : cells ≠ []) (h3 : 0 ≤ r) (h4 : r < 900000) (hr : row ≠ []) (ho : own ≠ []) (lr : row.length < 1000) (lo : own.length < 1000) :
    ∃ a b p' q', 0 ≤ a ∧ a < 4 ∧ exB (ctxOf fns [] fuel (n + 1)) bodyK [S2, some (fd cells p q r), Ch, Nu, e4, e5, some (.lst (row.map iI)), some (.lst (own.map iI)), e8, e9, e10] = .nx [S2, some (fd cells p' q' (r + 2)), Ch, Nu, e4, e5, some (.lst ((row ++ [row.getLast hr + 1 + a]).map iI)), some (.lst ((own ++ [own.getLast ho + 1 + b]).map iI)), e8, e9, e10] := by
  obtain ⟨a, p1, q1, a1, a2, ea⟩ := draw_ev (fuel := fuel) (n := n) (env := [S2, some (fd cells p q r), Ch, Nu, e4, e5, some (.lst (row.map iI)), some (.lst (own.map iI)), e8, e9, e10]) (p := p) (q := q) (r := r) (m := 4) rfl hc (by decide) (by decide) h3 (by omega)
  obtain ⟨row2, hrow2⟩ : ∃ row2, row2 = row ++ [row.getLast hr + 1 + a] := ⟨_, rfl⟩
  obtain ⟨b, p2, q2, b1, b2, eb⟩ := draw_ev (fuel := fuel) (n := n) (env := [S2, some (fd cells p1 q1 (r + 1)), Ch, Nu, e4, e5, some (.lst (row2.map iI)), some (.lst (own.map iI)), e8, e9, e10]) (p := p1) (q := q1) (r := r + 1) (m := 5) rfl hc (by decide) (by decide) (by omega) (by omega)
  refine ⟨a, b, p2, q2, a1, a2, ?_⟩
  rw [← hrow2]
  have l1 := last_int row hr
  have l2 := last_int own ho
  have z1 : row.length < sizeLine := by unfold sizeLine; omega
  have z2 : own.length < sizeLine := by unfold sizeLine; omega
  simp only [List.set_cons_succ, List.set_cons_zero] at ea eb
  have s1 : exS (ctxOf fns [] fuel (n + 1)) (.ex (.mut .append 6 [] [(.bin .Add (.bin .Add (.idx (.var 6) (.neg (.int 1))) (.int 1)) (dr 4))])) [S2, some (fd cells p q r), Ch, Nu, e4, e5, some (.lst (row.map iI)), some (.lst (own.map iI)), e8, e9, e10] = .nx [S2, some (fd cells p1 q1 (r + 1)), Ch, Nu, e4, e5, some (.lst (row2.map iI)), some (.lst (own.map iI)), e8, e9, e10] := by
    simp [exS, evE, evs, evMut, evO, evOne, ev2, evL, iv_var, iv_idx, iv_bin, iv_int, iv_neg, iv_lst, iv_bi, iv_call, iv_mv, iv_fz, rd, VS.R.bind, VS.R.out, VS.R.of, isLst, im_imm, im_lst, bw, triv, trivs, it_lst, l1, binD, binC, dr_v, dr_b, dr_t, hrow2, ea, muD, muL, z1]
  have s2 : exS (ctxOf fns [] fuel (n + 1)) (.ex (.mut .append 7 [] [(.bin .Add (.bin .Add (.idx (.var 7) (.neg (.int 1))) (.int 1)) (dr 5))])) [S2, some (fd cells p1 q1 (r + 1)), Ch, Nu, e4, e5, some (.lst (row2.map iI)), some (.lst (own.map iI)), e8, e9, e10] = .nx [S2, some (fd cells p2 q2 (r + 1 + 1)), Ch, Nu, e4, e5, some (.lst (row2.map iI)), some (.lst ((own ++ [own.getLast ho + 1 + b]).map iI)), e8, e9, e10] := by
    simp [exS, evE, evs, evMut, evO, evOne, ev2, evL, iv_var, iv_idx, iv_bin, iv_int, iv_neg, iv_lst, iv_bi, iv_call, iv_mv, iv_fz, rd, VS.R.bind, VS.R.out, VS.R.of, isLst, im_imm, im_lst, bw, triv, trivs, it_lst, l2, binD, binC, dr_v, dr_b, dr_t, eb, muD, muL, z2]
  unfold bodyK
  rw [st_nx s1, st_nx s2, st_nil, show r + 2 = r + 1 + 1 by omega]
/-- what has been made of a row -/
structure Good (row own : List Int) : Prop where
  len : own.length = row.length
  ne : row ≠ []
  le : row.length ≤ 8
  lo : ∀ x ∈ row, 0 ≤ x
  hi : ∀ x ∈ row, x ≤ 40
theorem Good.ne' {row own : List Int} (g : Good row own) : own ≠ [] := fun z => g.ne (List.length_eq_zero_iff.mp (by rw [← g.len, z]; rfl))
def PK (cells : List Int) (r : Int) (S2 Ch Nu e4 e5 e9 e10 : Option D) (k : Nat) (env : VS.Env) : Prop := ∃ (row own : List Int) (p' q' : Int) (e8' : Option D), own.length = row.length ∧ row.length = k + 1 ∧ (∀ x ∈ row, 0 ≤ x) ∧ (∀ x ∈ row, x ≤ 4 * k) ∧ env = [S2, some (fd cells p' q' (r + 2 * k)), Ch, Nu, e4, e5, some (.lst (row.map iI)), some (.lst (own.map iI)), e8', e9, e10]
noncomputable def oneK (fuel n : Nat) (x : D) (env : VS.Env) : O := match bindTg (.v 8) x env with
  | some env2 => exB (ctxOf fns [] fuel (n + 1)) bodyK env2
  | none => .stuck
theorem stepK {fuel n : Nat} {cells : List Int} {r : Int} {S2 Ch Nu e4 e5 e9 e10 : Option D} (hc : cells ≠ []) (h3 : 0 ≤ r) (h4 : r < 800000) (j : Nat) (x : D) (env : VS.Env) (hl : j < 7) (hP : PK cells r S2 Ch Nu e4 e5 e9 e10 j env) :
    ∃ env', oneK fuel n x env = .nx env' ∧ PK cells r S2 Ch Nu e4 e5 e9 e10 (j + 1) env' := by
  obtain ⟨row, own, p', q', e8', g1, g2, g3, g4, rfl⟩ := hP
  have hr : row ≠ [] := fun z => by simp [z] at g2
  have ho : own ≠ [] := fun z => by
    rw [z] at g1
    exact hr (List.length_eq_zero_iff.mp g1.symm)
  obtain ⟨a, b, p2, q2, a1, a2, e⟩ := turnK (fuel := fuel) (n := n) (row := row) (own := own) (p := p') (q := q') (r := r + 2 * j) (S2 := S2) (Ch := Ch) (Nu := Nu) (e4 := e4) (e5 := e5) (e8 := some x) (e9 := e9) (e10 := e10) hc (by omega) (by omega) hr ho (by omega) (by omega)
  refine ⟨_, ?_, row ++ [row.getLast hr + 1 + a], own ++ [own.getLast ho + 1 + b], p2, q2, some x, by simp [g1], by simp [g2], fun y hy => ?_, fun y hy => ?_, rfl⟩
  · unfold oneK
    simp only [bindTg]
    rw [if_pos (by simp)]
    simp only [List.set_cons_succ, List.set_cons_zero]
    rw [e]
    have : r + 2 * (j : Int) + 2 = r + 2 * ((j + 1 : Nat) : Int) := by omega
    rw [this]
  · rcases List.mem_append.mp hy with z | z
    · exact g3 y z
    · have := g3 _ (List.getLast_mem hr)
      simp at z; omega
  · rcases List.mem_append.mp hy with z | z
    · have := g4 y z; omega
    · have := g4 _ (List.getLast_mem hr)
      simp at z; omega
theorem loopK {fuel n : Nat} {cells : List Int} {p q r : Int} {S2 Ch Nu e4 e5 e8 e9 e10 : Option D} {x0 : Int} (hc : cells ≠ []) (h3 : 0 ≤ r) (h4 : r < 800000) (xs : List D) (hx : xs.length ≤ 7) :
    ∃ row own p' q' e8', Good row own ∧ forGo (oneK fuel n) (fun _ => True) xs [S2, some (fd cells p q r), Ch, Nu, e4, e5, some (.lst [iI 0]), some (.lst [iI x0]), e8, e9, e10] = .nx [S2, some (fd cells p' q' (r + 2 * xs.length)), Ch, Nu, e4, e5, some (.lst (row.map iI)), some (.lst (own.map iI)), e8', e9, e10] := by
  obtain ⟨env', e1, row, own, p', q', e8', g1, g2, g3, g4, rfl⟩ := for_cnt (one := oneK fuel n) (chk := fun _ => True) (PK cells r S2 Ch Nu e4 e5 e9 e10) (fun _ _ _ => trivial) xs 0
    [S2, some (fd cells p q r), Ch, Nu, e4, e5, some (.lst [iI 0]), some (.lst [iI x0]), e8, e9, e10] (fun j x env hj hl hP => stepK hc h3 h4 j x env (by omega) hP) ⟨[0], [x0], p, q, e8, rfl, rfl, by simp, by simp, by simp⟩
  rw [Nat.zero_add] at g2 g4
  refine ⟨row, own, p', q', e8', ⟨g1, fun z => by simp [z] at g2, by omega, g3, fun x hx => by have := g4 x hx; omega⟩, ?_⟩
  rw [e1, Nat.zero_add]
end V51

set_option linter.all false
set_option autoImplicit false
set_option maxRecDepth 100000
set_option maxHeartbeats 4000000
namespace V51
open PySem VS
theorem range_dr {fuel n : Nat} {m v : Int} {env env' : VS.Env} {A : List Nat} (h : evE (ctxOf fns [] fuel (n + 1)) (dr m) env = .ok (iI v) env') (h0 : 0 ≤ v) (h1 : v < 1000) : evI (ctxOf fns [] fuel (n + 1)) (.range [dr m]) A env = .ok (rangeL 0 v.toNat, fun _ => True) env' := by
  have ok : okR v = true := decide_eq_true (by omega)
  simp [evI, evs, itRange, evL, dr_v, h, VS.R.bind, im_imm, ok]
theorem tup_bi {row : List Int} : biD .tuple_ [.lst (row.map iI)] = some (tupD row) := by
  simp [biD, D.seq?, D.list?, imms_int, tupD]
def bodyM : List S := [(.asg 6 (.lst [(.int 0)])), (.asg 7 (.lst [dr 5])), (.fors (.v 8) (.range [dr 8]) bodyK), (.ex (.mut .append 2 [] [(.bi .tuple_ [(.var 6)])])), (.ex (.mut .append 3 [] [(.bi .tuple_ [(.var 7)])]))]
theorem turnM {fuel n : Nat} {cells : List Int} {p q r : Int} {S2 e4 e5 e6 e7 e8 e9 e10 : Option D} {rows owns : List (List Int)} (hc : cells ≠ []) (h3 : 0 ≤ r) (h4 : r < 700000) (l1 : rows.length < 1000) (l2 : owns.length < 1000) :
    ∃ row own p' q' r' e8', Good row own ∧ r ≤ r' ∧ r' ≤ r + 20 ∧ exB (ctxOf fns [] fuel (n + 1)) bodyM [S2, some (fd cells p q r), some (.lst (rows.map tupD)), some (.lst (owns.map tupD)), e4, e5, e6, e7, e8, e9, e10] = .nx [S2, some (fd cells p' q' r'), some (.lst ((rows ++ [row]).map tupD)), some (.lst ((owns ++ [own]).map tupD)), e4, e5, some (.lst (row.map iI)), some (.lst (own.map iI)), e8', e9, e10] := by
  obtain ⟨x0, p1, q1, a1, a2, ea⟩ := draw_ev (fuel := fuel) (n := n) (env := [S2, some (fd cells p q r), some (.lst (rows.map tupD)), some (.lst (owns.map tupD)), e4, e5, some (.lst [iI 0]), e7, e8, e9, e10]) (p := p) (q := q) (r := r) (m := 5) rfl hc (by decide) (by decide) h3 (by omega)
  obtain ⟨v, p2, q2, b1, b2, eb⟩ := draw_ev (fuel := fuel) (n := n) (env := [S2, some (fd cells p1 q1 (r + 1)), some (.lst (rows.map tupD)), some (.lst (owns.map tupD)), e4, e5, some (.lst [iI 0]), some (.lst [iI x0]), e8, e9, e10]) (p := p1) (q := q1) (r := r + 1) (m := 8) rfl hc (by decide) (by decide) (by omega) (by omega)
  simp only [List.set_cons_succ, List.set_cons_zero] at ea eb
  have hl : (rangeL 0 v.toNat).length ≤ 7 := by simp [rangeL]; omega
  obtain ⟨row, own, p3, q3, e8', gd, ek⟩ := loopK (fuel := fuel) (n := n) (p := p2) (q := q2) (r := r + 1 + 1) (S2 := S2) (Ch := some (.lst (rows.map tupD))) (Nu := some (.lst (owns.map tupD))) (e4 := e4) (e5 := e5) (e8 := e8) (e9 := e9) (e10 := e10) (x0 := x0) hc (by omega) (by omega) (rangeL 0 v.toNat) hl
  refine ⟨row, own, p3, q3, r + 1 + 1 + 2 * ((rangeL 0 v.toNat).length : Int), e8', gd, by omega, by omega, ?_⟩
  generalize r + 1 + 1 + 2 * ((rangeL 0 v.toNat).length : Int) = r3 at ek ⊢
  have z1 : rows.length < sizeLine := by unfold sizeLine; omega
  have z2 : owns.length < sizeLine := by unfold sizeLine; omega
  have s1 : exS (ctxOf fns [] fuel (n + 1)) (.asg 6 (.lst [(.int 0)])) [S2, some (fd cells p q r), some (.lst (rows.map tupD)), some (.lst (owns.map tupD)), e4, e5, e6, e7, e8, e9, e10] = .nx [S2, some (fd cells p q r), some (.lst (rows.map tupD)), some (.lst (owns.map tupD)), e4, e5, some (.lst [iI 0]), e7, e8, e9, e10] := by
    simp [exS, stAsg, evE, evs, evO, evOne, VS.R.bind, VS.R.out, im_imm, im_lst, bw, sizeLine]
  have s2 : exS (ctxOf fns [] fuel (n + 1)) (.asg 7 (.lst [dr 5])) [S2, some (fd cells p q r), some (.lst (rows.map tupD)), some (.lst (owns.map tupD)), e4, e5, some (.lst [iI 0]), e7, e8, e9, e10] = .nx [S2, some (fd cells p1 q1 (r + 1)), some (.lst (rows.map tupD)), some (.lst (owns.map tupD)), e4, e5, some (.lst [iI 0]), some (.lst [iI x0]), e8, e9, e10] := by
    simp [exS, stAsg, evE, evs, evO, evOne, VS.R.bind, VS.R.out, im_imm, im_lst, bw, ea, sizeLine]
  have s3 : exS (ctxOf fns [] fuel (n + 1)) (.fors (.v 8) (.range [dr 8]) bodyK) [S2, some (fd cells p1 q1 (r + 1)), some (.lst (rows.map tupD)), some (.lst (owns.map tupD)), e4, e5, some (.lst [iI 0]), some (.lst [iI x0]), e8, e9, e10] = .nx [S2, some (fd cells p3 q3 r3), some (.lst (rows.map tupD)), some (.lst (owns.map tupD)), e4, e5, some (.lst (row.map iI)), some (.lst (own.map iI)), e8', e9, e10] := by
    simp only [exS, stFor]
    rw [range_dr eb b1 (by omega)]
    exact ek
  have s4 : exS (ctxOf fns [] fuel (n + 1)) (.ex (.mut .append 2 [] [(.bi .tuple_ [(.var 6)])])) [S2, some (fd cells p3 q3 r3), some (.lst (rows.map tupD)), some (.lst (owns.map tupD)), e4, e5, some (.lst (row.map iI)), some (.lst (own.map iI)), e8', e9, e10] = .nx [S2, some (fd cells p3 q3 r3), some (.lst ((rows ++ [row]).map tupD)), some (.lst (owns.map tupD)), e4, e5, some (.lst (row.map iI)), some (.lst (own.map iI)), e8', e9, e10] := by
    have im : isImm (tupD row) = true := rfl
    simp [exS, evE, evs, evMut, evO, evOne, evN, evL, iv_var, iv_bi, rd, VS.R.bind, VS.R.out, VS.R.of, isLst, im, im_imm, im_lst, bw, triv, trivs, tup_bi, muD, muL, z1]
  have s5 : exS (ctxOf fns [] fuel (n + 1)) (.ex (.mut .append 3 [] [(.bi .tuple_ [(.var 7)])])) [S2, some (fd cells p3 q3 r3), some (.lst ((rows ++ [row]).map tupD)), some (.lst (owns.map tupD)), e4, e5, some (.lst (row.map iI)), some (.lst (own.map iI)), e8', e9, e10] = .nx [S2, some (fd cells p3 q3 r3), some (.lst ((rows ++ [row]).map tupD)), some (.lst ((owns ++ [own]).map tupD)), e4, e5, some (.lst (row.map iI)), some (.lst (own.map iI)), e8', e9, e10] := by
    have im : isImm (tupD own) = true := rfl
    simp [exS, evE, evs, evMut, evO, evOne, evN, evL, iv_var, iv_bi, rd, VS.R.bind, VS.R.out, VS.R.of, isLst, im, im_imm, im_lst, bw, triv, trivs, tup_bi, muD, muL, z2]
  unfold bodyM
  rw [st_nx s1, st_nx s2, st_nx s3, st_nx s4, st_nx s5, st_nil]
end V51

set_option linter.all false
set_option autoImplicit false
set_option maxRecDepth 100000
set_option maxHeartbeats 4000000
namespace V51
open PySem VS
theorem for_idx {one : D → VS.Env → O} {chk : VS.Env → Prop} (P : Nat → VS.Env → Prop) (hc : ∀ k env, P k env → chk env) : ∀ (pre xs : List D) (env : VS.Env), (∀ j x env, (pre ++ xs)[j]? = some x → P j env → ∃ env', one x env = .nx env' ∧ P (j + 1) env') → P pre.length env → ∃ env', forGo one chk xs env = .nx env' ∧ P (pre ++ xs).length env'
  | pre, [], env, hs, h => ⟨env, by unfold forGo; rw [if_pos (hc _ _ h)], by rw [List.append_nil]; exact h⟩
  | pre, x :: xs, env, hs, h => by
    obtain ⟨env1, e1, h1⟩ := hs pre.length x env (by simp) h
    obtain ⟨env2, e2, h2⟩ := for_idx P hc (pre ++ [x]) xs env1 (fun j y env a b => hs j y env (by simpa using a) b) (by simpa using h1)
    refine ⟨env2, ?_, by simpa using h2⟩
    unfold forGo
    rw [if_pos (hc _ _ h), e1]
    exact e2
/-- the first place whose number is reached, or the last -/
def due (num last : Int) : List Int → List Int → Int
  | x :: xs, y :: ys => if num ≤ y then x else due num last xs ys
  | _, _ => last
/-- all places whose number is reached -/
def filt (num : Int) : List Int → List Int → List Int
  | x :: xs, y :: ys => if num ≤ y then x :: filt num xs ys else filt num xs ys
  | _, _ => []
theorem filt_due (num last : Int) : ∀ xs ys : List Int, (filt num xs ys ++ [last]).head? = some (due num last xs ys)
  | [], _ => rfl
  | _ :: _, [] => rfl
  | x :: xs, y :: ys => by
    unfold filt due
    split
    · rfl
    · exact filt_due num last xs ys
theorem filt_len (num : Int) : ∀ xs ys : List Int, (filt num xs ys).length ≤ xs.length
  | [], _ => by simp [filt]
  | _ :: _, [] => by simp [filt]
  | x :: xs, y :: ys => by
    have := filt_len num xs ys
    unfold filt
    split <;> simp <;> omega
theorem due_mem (num last : Int) : ∀ xs ys : List Int, due num last xs ys = last ∨ due num last xs ys ∈ xs
  | [], _ => .inl rfl
  | _ :: _, [] => .inl rfl
  | x :: xs, y :: ys => by
    unfold due
    split
    · exact .inr List.mem_cons_self
    · rcases due_mem num last xs ys with h | h
      · exact .inl h
      · exact .inr (List.mem_cons_of_mem _ h)
abbrev cI (xs : List Int) : List C := xs.map .int
/-- a list comprehension over two rows -/
theorem compL {X : VS.Ctx} {e0 e1 e2 e3 e4 e5 e6 : Option D} {num : Int} {chk : VS.Env → Prop} (hk : ∀ env, chk env) (h2 : e2 = some (iI num)) : ∀ (row own acc : List Int), acc.length + row.length < 1000 →
    compGo (compOne (.fz 7, evE X (.fz 7)) (.t [.v 7, .v 8]) (some (.cmp .GtE (.var 8) (.var 2), evE X (.cmp .GtE (.var 8) (.var 2)))) [7, 8]) chk (pairs (cI row) (cI own)) (acc.map iI) [e0, e1, e2, e3, e4, e5, e6, none, none] = .ok ((acc ++ filt num row own).map iI) [e0, e1, e2, e3, e4, e5, e6, none, none]
  | [], own, acc, _ => by
    have : pairs (cI []) (cI own) = [] := by simp [pairs]
    rw [this]
    unfold compGo
    rw [if_pos (hk _)]
    simp [filt]
  | x :: xs, [], acc, _ => by
    have : pairs (cI (x :: xs)) (cI []) = [] := by simp [pairs]
    rw [this]
    unfold compGo
    rw [if_pos (hk _)]
    simp [filt]
  | x :: xs, y :: ys, acc, hl => by
    have hp : pairs (cI (x :: xs)) (cI (y :: ys)) = .imm (.tuple [.int x, .int y]) :: pairs (cI xs) (cI ys) := rfl
    have z : (acc.map iI).length < sizeLine := by
      simp only [List.length_map]
      unfold sizeLine
      simp at hl
      omega
    rw [hp]
    unfold compGo
    rw [if_pos (hk _)]
    by_cases hy : num ≤ y
    · have e : compOne (.fz 7, evE X (.fz 7)) (.t [.v 7, .v 8]) (some (.cmp .GtE (.var 8) (.var 2), evE X (.cmp .GtE (.var 8) (.var 2)))) [7, 8] (.imm (.tuple [.int x, .int y])) [e0, e1, e2, e3, e4, e5, e6, none, none] = .ok (some (iI x)) [e0, e1, e2, e3, e4, e5, e6, none, none] := by
        simp [compOne, bindTg, bindTgs, evIf, evE, ev2, evL, iv_var, rd, h2, VS.R.bind, VS.R.of, cmpD, hy, evOne, evFz, im_imm, wipeE]
      rw [e]
      simp only
      rw [if_pos z]
      have ih := compL (X := X) (e0 := e0) (e1 := e1) (e3 := e3) (e4 := e4) (e5 := e5) (e6 := e6) hk h2 xs ys (acc ++ [x]) (by simp at hl ⊢; omega)
      rw [List.map_append] at ih
      rw [show (acc.map iI ++ [iI x]) = List.map iI acc ++ List.map iI [x] from rfl, ih]
      simp [filt, hy]
    · have e : compOne (.fz 7, evE X (.fz 7)) (.t [.v 7, .v 8]) (some (.cmp .GtE (.var 8) (.var 2), evE X (.cmp .GtE (.var 8) (.var 2)))) [7, 8] (.imm (.tuple [.int x, .int y])) [e0, e1, e2, e3, e4, e5, e6, none, none] = .ok none [e0, e1, e2, e3, e4, e5, e6, none, none] := by
        simp [compOne, bindTg, bindTgs, evIf, evE, ev2, evL, iv_var, rd, h2, VS.R.bind, VS.R.of, cmpD, hy, evOne, evFz, im_imm, wipeE]
      rw [e]
      simp only
      have ih := compL (X := X) (e0 := e0) (e1 := e1) (e3 := e3) (e4 := e4) (e5 := e5) (e6 := e6) hk h2 xs ys acc (by simp at hl ⊢; omega)
      rw [ih]
      simp [filt, hy]
abbrev cT (r : List Int) : C := .tuple (cI r)
inductive Goods : List (List Int) → List (List Int) → Prop
  | nil : Goods [] []
  | cons {r o : List Int} {rs os : List (List Int)} : Good r o → Goods rs os → Goods (r :: rs) (o :: os)
theorem Goods.snoc {r o : List Int} (g : Good r o) : ∀ {rs os : List (List Int)}, Goods rs os → Goods (rs ++ [r]) (os ++ [o])
  | _, _, .nil => .cons g .nil
  | _, _, .cons h t => .cons h (t.snoc g)
def lastOf (r : List Int) : Int := r.getLast?.getD 0
theorem lastOf_eq {r : List Int} (h : r ≠ []) : lastOf r = r.getLast h := by
  unfold lastOf
  rw [List.getLast?_eq_some_getLast h]; rfl
def dues (num : Int) : List (List Int) → List (List Int) → List Int
  | r :: rs, o :: os => due num (lastOf r) r o :: dues num rs os
  | _, _ => []
theorem cat_int {a b : List Int} (h : a.length + b.length < 100000) : catD (.lst (a.map iI)) (.lst (b.map iI)) = some (.lst ((a ++ b).map iI)) := by
  simp only [catD, D.list?, imms_int, List.length_map]
  rw [if_pos (by unfold sizeLine; omega), ← List.map_append, List.map_map]
  rfl
theorem at_head (xs : List Int) : L2.atI (xs.map iI) 0 = xs.head?.map iI := by
  cases xs with
  | nil => rfl
  | cons a r => rw [List.map_cons, at0]; rfl
theorem tup_last {r : List Int} (h : r ≠ []) : D.item? (tupD r) (iI (-1)) = some (iI (lastOf r)) := by
  show L2.atI ((cI r).map D.imm) (-1) = _
  rw [show (cI r).map D.imm = r.map iI by simp, last_int r h, lastOf_eq h]
def bodyL : List S := [(.asg 6 (.comp (.fz 7) (.t [(.v 7), (.v 8)]) (.zip (.var 4) (.var 5)) (some (.cmp .GtE (.var 8) (.var 2))) [7, 8])), (.ex (.mut .append 3 [] [(.idx (.bin .Add (.var 6) (.lst [(.idx (.var 4) (.neg (.int 1)))])) (.int 0))]))]
theorem turnL {X : VS.Ctx} {row own acc : List Int} {num : Int} {e0 e1 e6 e7 e8 : Option D} (g : Good row own) (ha : acc.length < 1000) :
    ∃ e6', exB X bodyL [e0, e1, some (iI num), some (.lst (acc.map iI)), some (tupD row), some (tupD own), e6, e7, e8] = .nx [e0, e1, some (iI num), some (.lst ((acc ++ [due num (lastOf row) row own]).map iI)), some (tupD row), some (tupD own), e6', e7, e8] := by
  have it : evI X (.zip (.var 4) (.var 5)) [7, 8] [e0, e1, some (iI num), some (.lst (acc.map iI)), some (tupD row), some (tupD own), e6, e7, e8] = .ok (pairs (cI row) (cI own), fun env => (fun _ => True) env ∧ (fun _ => True) env) [e0, e1, some (iI num), some (.lst (acc.map iI)), some (tupD row), some (tupD own), e6, e7, e8] := by
    simp [evI, itZip, evE, rd, VS.R.bind, VS.R.of, tupD, im_imm, zSide]
  have cp := compL (X := X) (e0 := e0) (e1 := e1) (e2 := some (iI num)) (e3 := some (.lst (acc.map iI))) (e4 := some (tupD row)) (e5 := some (tupD own)) (e6 := e6) (num := num) (chk := fun env => (fun _ => True) env ∧ (fun _ => True) env) (fun _ => ⟨trivial, trivial⟩) rfl row own [] (by have := g.le; simp; omega)
  rw [List.nil_append, List.map_nil] at cp
  have s1 : exS X (.asg 6 (.comp (.fz 7) (.t [(.v 7), (.v 8)]) (.zip (.var 4) (.var 5)) (some (.cmp .GtE (.var 8) (.var 2))) [7, 8])) [e0, e1, some (iI num), some (.lst (acc.map iI)), some (tupD row), some (tupD own), e6, e7, e8] = .nx [e0, e1, some (iI num), some (.lst (acc.map iI)), some (tupD row), some (tupD own), some (.lst ((filt num row own).map iI)), e7, e8] := by
    have ec : evE X (.comp (.fz 7) (.t [(.v 7), (.v 8)]) (.zip (.var 4) (.var 5)) (some (.cmp .GtE (.var 8) (.var 2))) [7, 8]) [e0, e1, some (iI num), some (.lst (acc.map iI)), some (tupD row), some (tupD own), e6, e7, e8] = .ok (.lst ((filt num row own).map iI)) [e0, e1, some (iI num), some (.lst (acc.map iI)), some (tupD row), some (tupD own), e6, e7, e8] := by
      simp only [evE, evComp, evo]
      rw [it]
      simp only [VS.R.bind, wipeE, List.set_cons_succ, List.set_cons_zero]
      have cp2 := cp
      simp only [evE] at cp2
      rw [cp2]
      simp [backE]
    simp only [exS, stAsg, evOne, ec, VS.R.bind, VS.R.out]
    simp [im_lst, bw]
  have hlen := filt_len num row own
  have hle := g.le
  have z1 : acc.length < sizeLine := by unfold sizeLine; omega
  have hc := cat_int (a := filt num row own) (b := [lastOf row]) (by simp; omega)
  have hh : L2.atI ((filt num row own ++ [lastOf row]).map iI) 0 = some (iI (due num (lastOf row) row own)) := by
    rw [at_head, filt_due]; rfl
  have tl := tup_last g.ne
  have im : isImm (tupD row) = true := rfl
  refine ⟨some (.lst ((filt num row own).map iI)), ?_⟩
  have s2 : exS X (.ex (.mut .append 3 [] [(.idx (.bin .Add (.var 6) (.lst [(.idx (.var 4) (.neg (.int 1)))])) (.int 0))])) [e0, e1, some (iI num), some (.lst (acc.map iI)), some (tupD row), some (tupD own), some (.lst ((filt num row own).map iI)), e7, e8] = .nx [e0, e1, some (iI num), some (.lst ((acc ++ [due num (lastOf row) row own]).map iI)), some (tupD row), some (tupD own), some (.lst ((filt num row own).map iI)), e7, e8] := by
    have e1' : evE X (.idx (.bin .Add (.var 6) (.lst [(.idx (.var 4) (.neg (.int 1)))])) (.int 0)) [e0, e1, some (iI num), some (.lst (acc.map iI)), some (tupD row), some (tupD own), some (.lst ((filt num row own).map iI)), e7, e8] = .ok (iI (due num (lastOf row) row own)) [e0, e1, some (iI num), some (.lst (acc.map iI)), some (tupD row), some (tupD own), some (.lst ((filt num row own).map iI)), e7, e8] := by
      have b1 : binD .Add (.lst ((filt num row own).map iI)) (.lst [iI (lastOf row)]) = some (.lst ((filt num row own ++ [lastOf row]).map iI)) := hc
      generalize (filt num row own).map iI = F at b1 ⊢
      generalize (filt num row own ++ [lastOf row]).map iI = G at b1 hh ⊢
      simp [evE, evs, evO, evOne, ev2, evL, iv_var, iv_idx, iv_bin, iv_int, iv_neg, iv_lst, rd, VS.R.bind, VS.R.of, im_imm, im_lst, bw, triv, trivs, tl, b1, hh, it_lst, sizeLine]
    simp [exS, evE.eq_def X (.mut .append 3 [] _), evs, evMut, evO, evOne, e1', rd, VS.R.bind, VS.R.out, isLst, im_imm, muD, muL, z1]
  unfold bodyL
  rw [st_nx s1, st_nx s2, st_nil]
end V51

set_option linter.all false
set_option autoImplicit false
set_option maxRecDepth 100000
set_option maxHeartbeats 4000000
namespace V51
open PySem VS
noncomputable def oneL (X : VS.Ctx) (x : D) (env : VS.Env) : O := match bindTg (.t [.v 4, .v 5]) x env with
  | some env2 => exB X bodyL env2
  | none => .stuck
theorem forL {X : VS.Ctx} {num : Int} {e0 e1 : Option D} {chk : VS.Env → Prop} (hk : ∀ env, chk env) : ∀ {rows owns : List (List Int)} (g : Goods rows owns) (acc : List Int) (e4 e5 e6 e7 e8 : Option D), acc.length + rows.length < 1000 →
    ∃ e4' e5' e6', forGo (oneL X) chk (pairs (rows.map cT) (owns.map cT)) [e0, e1, some (iI num), some (.lst (acc.map iI)), e4, e5, e6, e7, e8] = .nx [e0, e1, some (iI num), some (.lst ((acc ++ dues num rows owns).map iI)), e4', e5', e6', e7, e8]
  | _, _, .nil, acc, e4, e5, e6, e7, e8, _ => by
    refine ⟨e4, e5, e6, ?_⟩
    simp only [List.map_nil, pairs, dues, List.append_nil]
    unfold forGo
    rw [if_pos (hk _)]
  | _, _, .cons (r := r) (o := o) (rs := rs) (os := os) g t, acc, e4, e5, e6, e7, e8, hl => by
    obtain ⟨e6', e⟩ := turnL (X := X) (acc := acc) (num := num) (e0 := e0) (e1 := e1) (e6 := e6) (e7 := e7) (e8 := e8) g (by simp at hl; omega)
    obtain ⟨f4, f5, f6, ih⟩ := forL (X := X) (num := num) (e0 := e0) (e1 := e1) hk t (acc ++ [due num (lastOf r) r o]) (some (tupD r)) (some (tupD o)) e6' e7 e8 (by simp at hl ⊢; omega)
    refine ⟨f4, f5, f6, ?_⟩
    simp only [List.map_cons, pairs, dues]
    unfold forGo
    rw [if_pos (hk _)]
    have eo : oneL X (.imm (.tuple [cT r, cT o])) [e0, e1, some (iI num), some (.lst (acc.map iI)), e4, e5, e6, e7, e8] = .nx [e0, e1, some (iI num), some (.lst ((acc ++ [due num (lastOf r) r o]).map iI)), some (tupD r), some (tupD o), e6', e7, e8] := by
      rw [← e]
      simp [oneL, bindTg, bindTgs, tupD]
    rw [eo]
    simp only
    rw [ih, List.append_assoc]
    rfl
def ctup (rows : List (List Int)) : D := .imm (.tuple (rows.map cT))
theorem line_by {X : VS.Ctx} {num : Int} {rows owns : List (List Int)} (g : Goods rows owns) (hl : rows.length < 500) :
    ∃ e3 e4 e5 e6 e7 e8, exB X fn0.body [some (ctup rows), some (ctup owns), some (iI num), none, none, none, none, none, none] = .rt (tupD (dues num rows owns)) [some (ctup rows), some (ctup owns), some (iI num), e3, e4, e5, e6, e7, e8] := by
  obtain ⟨f4, f5, f6, e⟩ := forL (X := X) (num := num) (e0 := some (ctup rows)) (e1 := some (ctup owns)) (chk := fun env => (fun _ => True) env ∧ (fun _ => True) env) (fun _ => ⟨trivial, trivial⟩) g [] none none none none none (by simp; omega)
  refine ⟨some (.lst ((dues num rows owns).map iI)), f4, f5, f6, none, none, ?_⟩
  have hb : fn0.body = [.asg 3 (.lst []), .fors (.t [(.v 4), (.v 5)]) (.zip (.var 0) (.var 1)) bodyL, .ret (.bi .tuple_ [(.var 3)])] := rfl
  have s1 : exS X (.asg 3 (.lst [])) [some (ctup rows), some (ctup owns), some (iI num), none, none, none, none, none, none] = .nx [some (ctup rows), some (ctup owns), some (iI num), some (.lst []), none, none, none, none, none] := by
    simp [exS, stAsg, evE, evs, evO, evOne, VS.R.bind, VS.R.out, im_lst, bw]
  have s2 : exS X (.fors (.t [(.v 4), (.v 5)]) (.zip (.var 0) (.var 1)) bodyL) [some (ctup rows), some (ctup owns), some (iI num), some (.lst []), none, none, none, none, none] = .nx [some (ctup rows), some (ctup owns), some (iI num), some (.lst ((dues num rows owns).map iI)), f4, f5, f6, none, none] := by
    have it : ∀ A, evI X (.zip (.var 0) (.var 1)) A [some (ctup rows), some (ctup owns), some (iI num), some (.lst []), none, none, none, none, none] = .ok (pairs (rows.map cT) (owns.map cT), fun env => (fun _ => True) env ∧ (fun _ => True) env) [some (ctup rows), some (ctup owns), some (iI num), some (.lst []), none, none, none, none, none] := fun A => by
      simp [evI, itZip, evE, rd, VS.R.bind, VS.R.of, ctup, im_imm, zSide]
    simp only [exS, stFor]
    rw [it]
    simp only [List.nil_append] at e
    exact e
  have s3 : exB X [.ret (.bi .tuple_ [(.var 3)])] [some (ctup rows), some (ctup owns), some (iI num), some (.lst ((dues num rows owns).map iI)), f4, f5, f6, none, none] = .rt (tupD (dues num rows owns)) [some (ctup rows), some (ctup owns), some (iI num), some (.lst ((dues num rows owns).map iI)), f4, f5, f6, none, none] := by
    have im : isImm (tupD (dues num rows owns)) = true := rfl
    generalize hL : (dues num rows owns).map iI = L
    have tb := tup_bi (row := dues num rows owns)
    rw [hL] at tb
    simp [exB, exS, oSeq, evE, evs, evOne, evN, evL, iv_var, rd, VS.R.bind, VS.R.out, VS.R.of, im, tb]
  rw [hb, st_nx s1, st_nx s2, s3]
theorem line_call {fuel n : Nat} {num : Int} {rows owns : List (List Int)} (g : Goods rows owns) (hl : rows.length < 500) : runFn fns [] fuel (n + 1) 0 [ctup rows, ctup owns, iI num] = .ok (tupD (dues num rows owns)) [ctup rows, ctup owns, iI num] := by
  obtain ⟨e3, e4, e5, e6, e7, e8, e⟩ := line_by (X := ctxOf fns [] fuel n) (num := num) g hl
  rw [runFn_succ (d := fn0) rfl rfl]
  have e0 : ([ctup rows, ctup owns, iI num].map some ++ List.replicate (fn0.ns - fn0.np) none) = [some (ctup rows), some (ctup owns), some (iI num), none, none, none, none, none, none] := rfl
  rw [e0, e]
  rfl
/-! ### the law's own reckoning -/
theorem tup_at {r : List Int} {k : Nat} (h : k < r.length) : D.item? (tupD r) (iI (k : Int)) = some (iI r[k]) := by
  show L2.atI ((cI r).map D.imm) (k : Int) = _
  unfold L2.atI L2.ixN
  rw [if_pos (by omega), if_pos (by simp; omega)]
  simp [h]
def bodyW : List S := [(.ifs (.cmp .GtE (.idx (.var 7) (.var 8)) (.var 5)) [(.asg 10 (.idx (.var 6) (.var 8)))] [])]
noncomputable def oneW (X : VS.Ctx) (x : D) (env : VS.Env) : O := match bindTg (.v 8) x env with
  | some env2 => exB X bodyW env2
  | none => .stuck
def PW (S2 F Ch Nu e4 e9 : Option D) (num : Int) (row own : List Int) (j : Nat) (env : VS.Env) : Prop := ∃ e8, env = [S2, F, Ch, Nu, e4, some (iI num), some (tupD row), some (tupD own), e8, e9, some (iI (due num (lastOf row) (row.drop (row.length - j)) (own.drop (row.length - j))))]
theorem loopW {X : VS.Ctx} {S2 F Ch Nu e4 e8 e9 : Option D} {num : Int} {row own : List Int} (g : Good row own) : ∃ e8', forGo (oneW X) (fun _ => True) (rangeD ((row.length : Int) - 1) row.length) [S2, F, Ch, Nu, e4, some (iI num), some (tupD row), some (tupD own), e8, e9, some (iI (lastOf row))] = .nx [S2, F, Ch, Nu, e4, some (iI num), some (tupD row), some (tupD own), e8', e9, some (iI (due num (lastOf row) row own))] := by
  have base : PW S2 F Ch Nu e4 e9 num row own ([] : List D).length [S2, F, Ch, Nu, e4, some (iI num), some (tupD row), some (tupD own), e8, e9, some (iI (lastOf row))] := by
    refine ⟨e8, ?_⟩
    simp [due]
  obtain ⟨env', e, e8', rfl⟩ := for_idx (one := oneW X) (chk := fun _ => True) (PW S2 F Ch Nu e4 e9 num row own) (fun _ _ _ => trivial) [] (rangeD ((row.length : Int) - 1) row.length) _ (fun j x env hx hP => by
    obtain ⟨e8, rfl⟩ := hP
    rw [List.nil_append] at hx
    unfold rangeD at hx
    rw [List.getElem?_map] at hx
    cases gj : (List.range row.length)[j]? with
    | none => rw [gj] at hx; cases hx
    | some i =>
      rw [gj] at hx
      simp only [Option.map_some, Option.some.injEq] at hx
      obtain ⟨g1, g2⟩ := List.getElem?_eq_some_iff.mp gj
      rw [List.getElem_range] at g2
      subst g2
      have hj : j < row.length := by simpa using g1
      subst hx
      have hk : row.length - 1 - j < row.length := by omega
      have hk2 : row.length - 1 - j < own.length := by rw [g.len]; omega
      have ek : ((row.length : Int) - 1 + (j : Int) * (-1)) = ((row.length - 1 - j : Nat) : Int) := by omega
      have t1 := tup_at hk2
      have t2 := tup_at hk
      have d1 : row.drop (row.length - (j + 1)) = row[row.length - 1 - j] :: row.drop (row.length - j) := by
        rw [show row.length - (j + 1) = row.length - 1 - j by omega, List.drop_eq_getElem_cons hk, show row.length - 1 - j + 1 = row.length - j by omega]
      have d2 : own.drop (row.length - (j + 1)) = own[row.length - 1 - j] :: own.drop (row.length - j) := by
        rw [show row.length - (j + 1) = row.length - 1 - j by omega, List.drop_eq_getElem_cons hk2, show row.length - 1 - j + 1 = row.length - j by omega]
      rw [ek]
      generalize hK : ((row.length - 1 - j : Nat) : Int) = K at t1 t2 ⊢
      generalize hO : due num (lastOf row) (row.drop (row.length - j)) (own.drop (row.length - j)) = old
      have new : due num (lastOf row) (row.drop (row.length - (j + 1))) (own.drop (row.length - (j + 1))) = if num ≤ own[row.length - 1 - j] then row[row.length - 1 - j] else old := by
        rw [d1, d2, due, hO]
      refine ⟨[S2, F, Ch, Nu, e4, some (iI num), some (tupD row), some (tupD own), some (iI K), e9, some (iI (due num (lastOf row) (row.drop (row.length - (j + 1))) (own.drop (row.length - (j + 1)))))], ?_, ⟨some (iI K), rfl⟩⟩
      rw [new]
      have i1 : isImm (tupD own) = true := rfl
      by_cases hy : num ≤ own[row.length - 1 - j]
      · rw [if_pos hy]
        simp [oneW, bindTg, bodyW, exB, exS, stIf, stAsg, oSeq, evOne, evE, ev2, evL, iv_var, iv_idx, rd, VS.R.bind, VS.R.out, VS.R.of, t1, t2, im_imm, bw, trivs, cmpD, hy]
      · rw [if_neg hy]
        simp [oneW, bindTg, bodyW, exB, exS, stIf, stAsg, oSeq, evOne, evE, ev2, evL, iv_var, iv_idx, rd, VS.R.bind, VS.R.out, VS.R.of, t1, t2, im_imm, bw, trivs, cmpD, hy]) base
  refine ⟨e8', ?_⟩
  rw [e]
  simp [rangeD]
end V51

set_option linter.all false
set_option autoImplicit false
set_option maxRecDepth 100000
set_option maxHeartbeats 4000000
namespace V51
open PySem VS
theorem small_shown : ∀ n : Fin 41, (PyData.strOk (PyData.shown (.int (n.val : Int))) && decide ((PyData.shown (.int (n.val : Int))).length ≤ 2) && decide ((n.val : Int).natAbs.log2 < 1920)) = true := by decide +kernel
theorem small_int {i : Int} (h0 : 0 ≤ i) (h1 : i ≤ 40) : PyData.strOk (PyData.shown (.int i)) = true ∧ (PyData.shown (.int i)).length ≤ 2 ∧ i.natAbs.log2 < 1920 := by
  obtain ⟨n, rfl⟩ := Int.eq_ofNat_of_zero_le h0
  have := small_shown ⟨n, by omega⟩
  simp only [Bool.and_eq_true, decide_eq_true_eq] at this
  exact ⟨this.1.1, this.1.2, this.2⟩
theorem ok_app {a b : Str} (ha : PyData.strOk a = true) (hb : PyData.strOk b = true) : PyData.strOk (a ++ b) = true := by
  show (a.cps ++ b.cps).all (· < 0x110000) = true
  rw [Array.all_append]
  simp only [Bool.and_eq_true]
  exact ⟨ha, hb⟩
theorem ok_join : ∀ ts : List Str, (∀ t ∈ ts, PyData.strOk t = true) → PyData.strOk (Str.join ", " ts) = true
  | [], _ => by decide +kernel
  | [x], h => h x (by simp)
  | x :: y :: r, h => ok_app (ok_app (h x (by simp)) (by decide +kernel)) (ok_join (y :: r) fun t ht => h t (List.mem_cons_of_mem _ ht))
theorem join_len : ∀ ts : List Str, (∀ t ∈ ts, t.length ≤ 2) → (Str.join ", " ts).length ≤ 4 * ts.length
  | [], _ => by decide
  | [x], h => by
    have := h x (by simp)
    show x.length ≤ _
    simp; omega
  | x :: y :: r, h => by
    have ih := join_len (y :: r) fun t ht => h t (List.mem_cons_of_mem _ ht)
    have hx := h x (by simp)
    show (x ++ (", " : Str) ++ Str.join ", " (y :: r)).length ≤ _
    have l2 : ((", " : String) : Str).length = 2 := rfl
    have e : ∀ a b : Str, (a ++ b).length = a.length + b.length := fun a b => Array.size_append
    rw [e, e, l2]
    simp at ih ⊢
    omega
theorem rep {ds : List Int} (h : ∀ x ∈ ds, 0 ≤ x ∧ x ≤ 40) (hl : ds.length ≤ 1000) : ∃ s, biD .repr_ [tupD ds] = some (.imm (.str s)) ∧ cmpD .NotEq (.imm (.str s)) (.imm (.str s)) = some false := by
  have sa : ∀ xs : List Int, (∀ x ∈ xs, 0 ≤ x ∧ x ≤ 40) → PyData.showableAll (cI xs) = true ∧ PyData.hasDictAll (cI xs) = false ∧ PyData.depthAll (cI xs) = 0 ∧ (PyData.shownAll (cI xs)).length = xs.length ∧ ∀ t ∈ PyData.shownAll (cI xs), PyData.strOk t = true ∧ t.length ≤ 2 := fun xs => by
    induction xs with
    | nil => intro _; exact ⟨rfl, rfl, rfl, rfl, fun t ht => by cases ht⟩
    | cons a r ih =>
      intro hx
      obtain ⟨i1, i2, i3, i4, i5⟩ := ih fun x hm => hx x (List.mem_cons_of_mem _ hm)
      obtain ⟨b1, b2⟩ := hx a (by simp)
      obtain ⟨s1, s2, s3⟩ := small_int b1 b2
      refine ⟨?_, ?_, ?_, ?_, ?_⟩
      · show (PyData.showable (.int a) && PyData.showableAll (cI r)) = true
        rw [i1]; simpa [PyData.showable] using s3
      · show (PyData.hasDict (.int a) || PyData.hasDictAll (cI r)) = false
        rw [i2]; rfl
      · show max (PyData.depth (.int a)) (PyData.depthAll (cI r)) = 0
        rw [i3]; rfl
      · show (PyData.shown (.int a) :: PyData.shownAll (cI r)).length = _
        rw [List.length_cons, i4, List.length_cons]
      · intro t ht
        rcases List.mem_cons.mp (show t ∈ PyData.shown (.int a) :: PyData.shownAll (cI r) from ht) with q | q
        · rw [q]; exact ⟨s1, s2⟩
        · exact i5 t q
  obtain ⟨i1, i2, i3, i4, i5⟩ := sa ds h
  have e : ∀ a b : Str, (a ++ b).length = a.length + b.length := fun a b => Array.size_append
  have sh : PyData.shown (.tuple (cI ds)) = tupleText (PyData.shownAll (cI ds)) := rfl
  have jl := join_len (PyData.shownAll (cI ds)) fun t ht => (i5 t ht).2
  have ll : (PyData.shown (.tuple (cI ds))).length ≤ sizeLine := by
    rw [sh]
    unfold tupleText
    rw [e, e]
    have l1 : (("(" : String) : Str).length = 1 := rfl
    have l2 : (((if (PyData.shownAll (cI ds)).length == 1 then ",)" else ")" : String)) : Str).length ≤ 2 := by split <;> decide
    rw [l1]
    unfold sizeLine
    omega
  have ok : PyData.strOk (PyData.shown (.tuple (cI ds))) = true := by
    rw [sh]
    unfold tupleText
    refine ok_app (ok_app (by decide +kernel) (ok_join _ fun t ht => (i5 t ht).1)) ?_
    split <;> decide +kernel
  refine ⟨PyData.shown (.tuple (cI ds)), ?_, ?_⟩
  · have c1 : PyData.showable (.tuple (cI ds)) = true := i1
    have c2 : PyData.hasDict (.tuple (cI ds)) = false := i2
    have c3 : PyData.depth (.tuple (cI ds)) ≤ 64 := by
      show PyData.depthAll (cI ds) + 1 ≤ 64
      rw [i3]; decide
    simp only [biD, tupD, D.c?, c1, c2, Bool.not_false, Bool.and_true, Bool.true_and]
    rw [if_pos (by simp only [Bool.and_eq_true, decide_eq_true_eq]; exact ⟨c3, ll⟩)]
  · generalize PyData.shown (.tuple (cI ds)) = s at ok ⊢
    have ok2 : okEq (.str s) = true := by
      unfold okEq SeqAt.shaped
      simp only [Bool.and_eq_true, decide_eq_true_eq]
      exact ⟨ok, Nat.zero_le _⟩
    simp [cmpD, eqD, D.c?, ok2, PyData.eqv]
end V51

set_option linter.all false
set_option autoImplicit false
set_option maxRecDepth 100000
set_option maxHeartbeats 4000000
namespace V51
open PySem VS
def bodyD : List S := [(.asg 10 (.idx (.var 6) (.neg (.int 1)))), (.fors (.v 8) (.down [(.bin .Sub (.bi .len [(.var 6)]) (.int 1)), (.neg (.int 1)), (.neg (.int 1))]) bodyW), (.ex (.mut .append 9 [] [(.mv 10)]))]
theorem len_tup {X : VS.Ctx} {row : List Int} (h : row.length ≤ 8) {A : List Nat} {S2 F Ch Nu e4 e5 e7 e8 e9 e10 : Option D} : evI X (.down [(.bin .Sub (.bi .len [(.var 6)]) (.int 1)), (.neg (.int 1)), (.neg (.int 1))]) A [S2, F, Ch, Nu, e4, e5, some (tupD row), e7, e8, e9, e10] = .ok (rangeD ((row.length : Int) - 1) row.length, fun _ => True) [S2, F, Ch, Nu, e4, e5, some (tupD row), e7, e8, e9, e10] := by
  have bl : biD .len [tupD row] = some (iI (row.length : Int)) := by
    simp [biD, tupD, D.seq?, D.list?, D.tuple?]
  have o1 : okR ((row.length : Int) - 1) = true := decide_eq_true (by omega)
  have o2 : okR (-1) = true := by decide
  have e : (((row.length : Int) - 1) - (-1)).toNat = row.length := by omega
  simp [evI, evs, itDown, evL, evE, ev2, evN, iv_var, iv_bin, iv_bi, iv_int, iv_neg, rd, VS.R.bind, VS.R.of, im_imm, bw, triv, trivs, bl, binD, binC, o1, o2, e]
theorem turnD {X : VS.Ctx} {S2 F Ch Nu e4 e8 e10 : Option D} {num : Int} {row own acc : List Int} (g : Good row own) (ha : acc.length < 1000) :
    ∃ e8' e10', exB X bodyD [S2, F, Ch, Nu, e4, some (iI num), some (tupD row), some (tupD own), e8, some (.lst (acc.map iI)), e10] = .nx [S2, F, Ch, Nu, e4, some (iI num), some (tupD row), some (tupD own), e8', some (.lst ((acc ++ [due num (lastOf row) row own]).map iI)), e10'] := by
  obtain ⟨e8', ew⟩ := loopW (X := X) (S2 := S2) (F := F) (Ch := Ch) (Nu := Nu) (e4 := e4) (e8 := e8) (e9 := some (.lst (acc.map iI))) (num := num) g
  have tl := tup_last g.ne
  have z1 : acc.length < sizeLine := by unfold sizeLine; omega
  refine ⟨e8', some (iI (due num (lastOf row) row own)), ?_⟩
  have s1 : exS X (.asg 10 (.idx (.var 6) (.neg (.int 1)))) [S2, F, Ch, Nu, e4, some (iI num), some (tupD row), some (tupD own), e8, some (.lst (acc.map iI)), e10] = .nx [S2, F, Ch, Nu, e4, some (iI num), some (tupD row), some (tupD own), e8, some (.lst (acc.map iI)), some (iI (lastOf row))] := by
    simp [exS, stAsg, evOne, evE, ev2, evL, iv_var, iv_neg, rd, VS.R.bind, VS.R.out, VS.R.of, im_imm, bw, triv, trivs, tl]
  have s2 : exS X (.fors (.v 8) (.down [(.bin .Sub (.bi .len [(.var 6)]) (.int 1)), (.neg (.int 1)), (.neg (.int 1))]) bodyW) [S2, F, Ch, Nu, e4, some (iI num), some (tupD row), some (tupD own), e8, some (.lst (acc.map iI)), some (iI (lastOf row))] = .nx [S2, F, Ch, Nu, e4, some (iI num), some (tupD row), some (tupD own), e8', some (.lst (acc.map iI)), some (iI (due num (lastOf row) row own))] := by
    simp only [exS, stFor]
    rw [len_tup g.le]
    exact ew
  have s3 : exS X (.ex (.mut .append 9 [] [(.mv 10)])) [S2, F, Ch, Nu, e4, some (iI num), some (tupD row), some (tupD own), e8', some (.lst (acc.map iI)), some (iI (due num (lastOf row) row own))] = .nx [S2, F, Ch, Nu, e4, some (iI num), some (tupD row), some (tupD own), e8', some (.lst ((acc ++ [due num (lastOf row) row own]).map iI)), some (iI (due num (lastOf row) row own))] := by
    simp [exS, evE, evs, evMut, evO, evOne, evMv, rd, VS.R.bind, VS.R.out, VS.R.of, isLst, im_imm, bw, muD, muL, z1]
  unfold bodyD
  rw [st_nx s1, st_nx s2, st_nx s3, st_nil]
noncomputable def oneD (X : VS.Ctx) (x : D) (env : VS.Env) : O := match bindTg (.t [.v 6, .v 7]) x env with
  | some env2 => exB X bodyD env2
  | none => .stuck
theorem forD {X : VS.Ctx} {num : Int} {S2 F e4 : Option D} {R0 O0 : D} : ∀ {rows owns : List (List Int)} (g : Goods rows owns) (acc : List Int) (e6 e7 e8 e10 : Option D), acc.length + rows.length < 1000 →
    ∃ e6' e7' e8' e10', forGo (oneD X) (fun env => (fun env => rd 2 env = some R0) env ∧ (fun env => rd 3 env = some O0) env) (pairs (rows.map cT) (owns.map cT)) [S2, F, some R0, some O0, e4, some (iI num), e6, e7, e8, some (.lst (acc.map iI)), e10] = .nx [S2, F, some R0, some O0, e4, some (iI num), e6', e7', e8', some (.lst ((acc ++ dues num rows owns).map iI)), e10']
  | _, _, .nil, acc, e6, e7, e8, e10, _ => by
    refine ⟨e6, e7, e8, e10, ?_⟩
    simp only [List.map_nil, pairs, dues, List.append_nil]
    unfold forGo
    rw [if_pos ⟨rfl, rfl⟩]
  | _, _, .cons (r := r) (o := o) (rs := rs) (os := os) g t, acc, e6, e7, e8, e10, hl => by
    obtain ⟨a8, a10, e⟩ := turnD (X := X) (S2 := S2) (F := F) (Ch := some R0) (Nu := some O0) (e4 := e4) (e8 := e8) (e10 := e10) (num := num) (acc := acc) g (by simp at hl; omega)
    obtain ⟨f6, f7, f8, f10, ih⟩ := forD (X := X) (num := num) (S2 := S2) (F := F) (e4 := e4) (R0 := R0) (O0 := O0) t (acc ++ [due num (lastOf r) r o]) (some (tupD r)) (some (tupD o)) a8 a10 (by simp at hl ⊢; omega)
    refine ⟨f6, f7, f8, f10, ?_⟩
    simp only [List.map_cons, pairs, dues]
    unfold forGo
    rw [if_pos ⟨rfl, rfl⟩]
    have eo : oneD X (.imm (.tuple [cT r, cT o])) [S2, F, some R0, some O0, e4, some (iI num), e6, e7, e8, some (.lst (acc.map iI)), e10] = .nx [S2, F, some R0, some O0, e4, some (iI num), some (tupD r), some (tupD o), a8, some (.lst ((acc ++ [due num (lastOf r) r o]).map iI)), a10] := by
      rw [← e]
      simp [oneD, bindTg, bindTgs, tupD]
    rw [eo]
    simp only
    rw [ih, List.append_assoc]
    rfl
theorem dues_ok {num : Int} : ∀ {rows owns : List (List Int)}, Goods rows owns → (∀ x ∈ dues num rows owns, 0 ≤ x ∧ x ≤ 40) ∧ (dues num rows owns).length ≤ rows.length
  | _, _, .nil => ⟨fun x hx => by simp [dues] at hx, by simp [dues]⟩
  | _, _, .cons (r := r) (o := o) g t => by
    obtain ⟨h1, h2⟩ := dues_ok (num := num) t
    refine ⟨fun x hx => ?_, by simp [dues]; omega⟩
    rw [dues] at hx
    rcases List.mem_cons.mp hx with q | q
    · have lm : lastOf r ∈ r := by rw [lastOf_eq g.ne]; exact List.getLast_mem g.ne
      rcases due_mem num (lastOf r) r o with z | z
      · rw [q, z]; exact ⟨g.lo _ lm, g.hi _ lm⟩
      · rw [q]; exact ⟨g.lo _ z, g.hi _ z⟩
    · exact h1 x q
theorem imms_tup : ∀ rows : List (List Int), imms (rows.map tupD) = some (rows.map cT)
  | [] => rfl
  | r :: rs => by simp [imms, tupD, imms_tup rs]
theorem ctup_bi {rows : List (List Int)} : biD .tuple_ [.lst (rows.map tupD)] = some (ctup rows) := by
  simp [biD, D.seq?, D.list?, imms_tup, ctup]
def bodyN : List S := [(.asg 9 (.lst [])), (.fors (.t [(.v 6), (.v 7)]) (.zip (.var 2) (.var 3)) bodyD), (.ifs (.cmp .NotEq (.bi .repr_ [(.call 0 [(.bi .tuple_ [(.var 2)]), (.bi .tuple_ [(.var 3)]), (.var 5)])]) (.bi .repr_ [(.bi .tuple_ [(.var 9)])])) [(.ret (.bl false))] [])]
theorem turnN {fuel n : Nat} {S2 F e4 e6 e7 e8 e9 e10 : Option D} {num : Int} {rows owns : List (List Int)} (g : Goods rows owns) (hl : rows.length < 100) :
    ∃ e6' e7' e8' e9' e10', exB (ctxOf fns [] fuel (n + 1)) bodyN [S2, F, some (.lst (rows.map tupD)), some (.lst (owns.map tupD)), e4, some (iI num), e6, e7, e8, e9, e10] = .nx [S2, F, some (.lst (rows.map tupD)), some (.lst (owns.map tupD)), e4, some (iI num), e6', e7', e8', e9', e10'] := by
  obtain ⟨f6, f7, f8, f10, ed⟩ := forD (X := ctxOf fns [] fuel (n + 1)) (num := num) (S2 := S2) (F := F) (e4 := e4) (R0 := .lst (rows.map tupD)) (O0 := .lst (owns.map tupD)) g [] e6 e7 e8 e10 (by simp; omega)
  obtain ⟨d1, d2⟩ := dues_ok (num := num) g
  obtain ⟨str, r1, r2⟩ := rep d1 (by omega)
  have lc := line_call (fuel := fuel) (n := n) (num := num) g (by omega)
  refine ⟨f6, f7, f8, some (.lst ((dues num rows owns).map iI)), f10, ?_⟩
  have s1 : exS (ctxOf fns [] fuel (n + 1)) (.asg 9 (.lst [])) [S2, F, some (.lst (rows.map tupD)), some (.lst (owns.map tupD)), e4, some (iI num), e6, e7, e8, e9, e10] = .nx [S2, F, some (.lst (rows.map tupD)), some (.lst (owns.map tupD)), e4, some (iI num), e6, e7, e8, some (.lst []), e10] := by
    simp [exS, stAsg, evE, evs, evO, evOne, VS.R.bind, VS.R.out, im_lst, bw]
  have s2 : exS (ctxOf fns [] fuel (n + 1)) (.fors (.t [(.v 6), (.v 7)]) (.zip (.var 2) (.var 3)) bodyD) [S2, F, some (.lst (rows.map tupD)), some (.lst (owns.map tupD)), e4, some (iI num), e6, e7, e8, some (.lst []), e10] = .nx [S2, F, some (.lst (rows.map tupD)), some (.lst (owns.map tupD)), e4, some (iI num), f6, f7, f8, some (.lst ((dues num rows owns).map iI)), f10] := by
    have it : evI (ctxOf fns [] fuel (n + 1)) (.zip (.var 2) (.var 3)) (tgSlots (.t [(.v 6), (.v 7)]) ++ asgB bodyD) [S2, F, some (.lst (rows.map tupD)), some (.lst (owns.map tupD)), e4, some (iI num), e6, e7, e8, some (.lst []), e10] = .ok (pairs (rows.map cT) (owns.map cT), fun env => (fun env => rd 2 env = some (.lst (rows.map tupD))) env ∧ (fun env => rd 3 env = some (.lst (owns.map tupD))) env) [S2, F, some (.lst (rows.map tupD)), some (.lst (owns.map tupD)), e4, some (iI num), e6, e7, e8, some (.lst []), e10] := by
      have hA : tgSlots (.t [(.v 6), (.v 7)]) ++ asgB bodyD = [6, 7, 10, 8, 10] := rfl
      rw [hA]
      have c1 : rd 2 [S2, F, some (.lst (rows.map tupD)), some (.lst (owns.map tupD)), e4, some (iI num), e6, e7, e8, some (.lst []), e10] = some (.lst (rows.map tupD)) := rfl
      have c2 : rd 3 [S2, F, some (.lst (rows.map tupD)), some (.lst (owns.map tupD)), e4, some (iI num), e6, e7, e8, some (.lst []), e10] = some (.lst (owns.map tupD)) := rfl
      simp [evI, itZip, evE, c1, c2, VS.R.bind, VS.R.of, triv, im_lst, zSide, imms_tup, iv_var]
    simp only [exS, stFor]
    rw [it]
    exact ed
  have s3 : exS (ctxOf fns [] fuel (n + 1)) (.ifs (.cmp .NotEq (.bi .repr_ [(.call 0 [(.bi .tuple_ [(.var 2)]), (.bi .tuple_ [(.var 3)]), (.var 5)])]) (.bi .repr_ [(.bi .tuple_ [(.var 9)])])) [(.ret (.bl false))] []) [S2, F, some (.lst (rows.map tupD)), some (.lst (owns.map tupD)), e4, some (iI num), f6, f7, f8, some (.lst ((dues num rows owns).map iI)), f10] = .nx [S2, F, some (.lst (rows.map tupD)), some (.lst (owns.map tupD)), e4, some (iI num), f6, f7, f8, some (.lst ((dues num rows owns).map iI)), f10] := by
    have tb := tup_bi (row := dues num rows owns)
    have cb1 := ctup_bi (rows := rows)
    have cb2 := ctup_bi (rows := owns)
    have i1 : isImm (ctup rows) = true := rfl
    have i2 : isImm (ctup owns) = true := rfl
    have i3 : isImm (tupD (dues num rows owns)) = true := rfl
    have rb : (ctxOf fns [] fuel (n + 1)).rb 0 = [false, false, false] := rfl
    have cl : (ctxOf fns [] fuel (n + 1)).call 0 = runFn fns [] fuel (n + 1) 0 := rfl
    generalize (dues num rows owns).map iI = L at tb ⊢
    generalize rows.map tupD = R0 at cb1 ⊢
    generalize owns.map tupD = O0 at cb2 ⊢
    simp [exS, stIf, exB, evE, evs, evN, ev2, evL, evCall, evA, evOne, iv_var, iv_bi, iv_call, rd, VS.R.bind, VS.R.out, VS.R.of, im_imm, i1, i2, i3, bw, trivs, cb1, cb2, tb, lc, lendOk, varsOf, cl, rb, giveBack, r1, r2, cmpK]
  unfold bodyN
  rw [st_nx s1, st_nx s2, st_nx s3, st_nil]
end V51

set_option linter.all false
set_option autoImplicit false
set_option maxRecDepth 100000
set_option maxHeartbeats 4000000
namespace V51
open PySem VS
noncomputable def oneM (fuel n : Nat) (x : D) (env : VS.Env) : O := match bindTg (.v 4) x env with
  | some env2 => exB (ctxOf fns [] fuel (n + 1)) bodyM env2
  | none => .stuck
def PM (cells : List Int) (S2 : Option D) (k : Nat) (env : VS.Env) : Prop := ∃ (rows owns : List (List Int)) (p q r : Int) (e4 e6 e7 e8 : Option D), Goods rows owns ∧ rows.length = k ∧ 0 ≤ r ∧ r ≤ 1 + 20 * k ∧ env = [S2, some (fd cells p q r), some (.lst (rows.map tupD)), some (.lst (owns.map tupD)), e4, none, e6, e7, e8, none, none]
theorem Goods.len : ∀ {rows owns : List (List Int)}, Goods rows owns → owns.length = rows.length
  | _, _, .nil => rfl
  | _, _, .cons _ t => by simp [t.len]
theorem stepM {fuel n : Nat} {cells : List Int} {S2 : Option D} (hc : cells ≠ []) (j : Nat) (x : D) (env : VS.Env) (hj : j < 10) (hP : PM cells S2 j env) : ∃ env', oneM fuel n x env = .nx env' ∧ PM cells S2 (j + 1) env' := by
  obtain ⟨rows, owns, p, q, r, e4, e6, e7, e8, g, h1, h2, h3, rfl⟩ := hP
  have hl := g.len
  obtain ⟨row, own, p', q', r', e8', gd, b1, b2, e⟩ := turnM (fuel := fuel) (n := n) (p := p) (q := q) (r := r) (S2 := S2) (e4 := some x) (e5 := none) (e6 := e6) (e7 := e7) (e8 := e8) (e9 := none) (e10 := none) (rows := rows) (owns := owns) hc h2 (by omega) (by omega) (by omega)
  refine ⟨_, ?_, rows ++ [row], owns ++ [own], p', q', r', some x, some (.lst (row.map iI)), some (.lst (own.map iI)), e8', g.snoc gd, by simp [h1], by omega, by omega, rfl⟩
  unfold oneM
  simp only [bindTg]
  rw [if_pos (by simp)]
  simp only [List.set_cons_succ, List.set_cons_zero]
  exact e
noncomputable def oneN (fuel n : Nat) (x : D) (env : VS.Env) : O := match bindTg (.v 5) x env with
  | some env2 => exB (ctxOf fns [] fuel (n + 1)) bodyN env2
  | none => .stuck
def PN (S2 F : Option D) (rows owns : List (List Int)) (env : VS.Env) : Prop := ∃ e4 e5 e6 e7 e8 e9 e10, env = [S2, F, some (.lst (rows.map tupD)), some (.lst (owns.map tupD)), e4, e5, e6, e7, e8, e9, e10]
theorem loopN {fuel n : Nat} {S2 F : Option D} {rows owns : List (List Int)} (g : Goods rows owns) (hl : rows.length < 100) (nums : List Int) (env : VS.Env) (h : PN S2 F rows owns env) : ∃ env', forGo (oneN fuel n) (fun _ => True) (nums.map iI) env = .nx env' ∧ PN S2 F rows owns env' := by
  refine for_idx (one := oneN fuel n) (chk := fun _ => True) (fun _ => PN S2 F rows owns) (fun _ _ _ => trivial) [] (nums.map iI) env (fun j x env hx hP => ?_) h
  obtain ⟨e4, e5, e6, e7, e8, e9, e10, rfl⟩ := hP
  rw [List.nil_append, List.getElem?_map] at hx
  cases gj : nums[j]? with
  | none => rw [gj] at hx; cases hx
  | some num =>
    rw [gj] at hx
    simp only [Option.map_some, Option.some.injEq] at hx
    subst hx
    obtain ⟨a6, a7, a8, a9, a10, e⟩ := turnN (fuel := fuel) (n := n) (S2 := S2) (F := F) (e4 := e4) (e6 := e6) (e7 := e7) (e8 := e8) (e9 := e9) (e10 := e10) (num := num) g hl
    refine ⟨_, ?_, e4, some (iI num), a6, a7, a8, a9, a10, rfl⟩
    unfold oneN
    simp only [bindTg]
    rw [if_pos (by simp)]
    simp only [List.set_cons_succ, List.set_cons_zero]
    exact e
def numsE : E := .lst [(.bin .Sub (dr 33) (.int 2)), (.bin .Sub (dr 33) (.int 2)), (.bin .Sub (.bin .Pow (.int 10) (.int 60)) (.int 1)), (.neg (.bin .Pow (.int 10) (.int 59))), (.idx (.idx (.var 3) (.int 0)) (.neg (.int 1)))]
theorem nums_ev {fuel n : Nat} {cells : List Int} {p q r : Int} {S2 Ch e4 e5 e6 e7 e8 e9 e10 : Option D} {own : List Int} {owns : List (List Int)} (hc : cells ≠ []) (h3 : 0 ≤ r) (h4 : r < 10000) (ho : own ≠ []) :
    ∃ (nums : List Int) (p' q' : Int), nums.length = 5 ∧ evE (ctxOf fns [] fuel (n + 1)) numsE [S2, some (fd cells p q r), Ch, some (.lst ((own :: owns).map tupD)), e4, e5, e6, e7, e8, e9, e10] = .ok (.lst (nums.map iI)) [S2, some (fd cells p' q' (r + 1 + 1)), Ch, some (.lst ((own :: owns).map tupD)), e4, e5, e6, e7, e8, e9, e10] := by
  obtain ⟨a, p1, q1, a1, a2, ea⟩ := draw_ev (fuel := fuel) (n := n) (env := [S2, some (fd cells p q r), Ch, some (.lst ((own :: owns).map tupD)), e4, e5, e6, e7, e8, e9, e10]) (p := p) (q := q) (r := r) (m := 33) rfl hc (by decide) (by decide) h3 (by omega)
  obtain ⟨b, p2, q2, b1, b2, eb⟩ := draw_ev (fuel := fuel) (n := n) (env := [S2, some (fd cells p1 q1 (r + 1)), Ch, some (.lst ((own :: owns).map tupD)), e4, e5, e6, e7, e8, e9, e10]) (p := p1) (q := q1) (r := r + 1) (m := 33) rfl hc (by decide) (by decide) (by omega) (by omega)
  simp only [List.set_cons_succ, List.set_cons_zero] at ea eb
  have tl := tup_last ho
  have h0 : L2.atI ((own :: owns).map tupD) 0 = some (tupD own) := at0 _ _
  have im : isImm (tupD own) = true := rfl
  refine ⟨[a - 2, b - 2, 10 ^ 60 - 1, -10 ^ 59, lastOf own], p2, q2, rfl, ?_⟩
  generalize (own :: owns).map tupD = L at ea eb h0 ⊢
  unfold numsE
  simp [evE, evs, evO, evOne, ev2, evL, iv_var, iv_idx, iv_bin, iv_int, iv_neg, dr_v, dr_b, dr_t, ea, eb, rd, VS.R.bind, VS.R.of, im_imm, im_lst, im, bw, triv, trivs, binD, binC, it_lst, h0, tl, sizeLine]
def body3 : List S := [
    .asg 1 (.call 1 [(.var 0)]),
    .asg 2 (.lst []),
    .asg 3 (.lst []),
    .fors (.v 4) (.range [(.bin .Add (.int 1) (dr 4))]) bodyM,
    .fors (.v 5) (.seq numsE) bodyN,
    .ret (.bl true)]
theorem body3_eq : fn3.body = body3 := rfl
theorem imms_i (xs : List Int) : imms (xs.map iI) = some (cI xs) := imms_int xs
theorem law_ev {fuel n : Nat} (ns : List Int) (hn : ns.length ≤ 63) : ∃ env, exB (ctxOf fns [] fuel (n + 1)) body3 [some (.imm (.list (ns.map .int))), none, none, none, none, none, none, none, none, none, none] = .rt (.imm (.bool true)) (some (.imm (.list (ns.map .int))) :: env) := by
  obtain ⟨cells, hc, ef⟩ := feed (X := ctxOf fns [] fuel n) ns hn
  generalize hS : (D.imm (.list (ns.map .int))) = S at ef ⊢
  have iS : isImm S = true := by rw [← hS]; rfl
  have call : runFn fns [] fuel (n + 1) 1 [S] = .ok (fd cells 0 0 0) [S] := by
    rw [runFn_succ (d := fn1) rfl rfl]
    have e0 : ([S].map some ++ List.replicate (fn1.ns - fn1.np) none) = [some S] := rfl
    rw [e0, ef]
    rfl
  have rb : (ctxOf fns [] fuel (n + 1)).rb 1 = [false] := rfl
  have cl : (ctxOf fns [] fuel (n + 1)).call 1 = runFn fns [] fuel (n + 1) 1 := rfl
  have s1 : exS (ctxOf fns [] fuel (n + 1)) (.asg 1 (.call 1 [(.var 0)])) [some S, none, none, none, none, none, none, none, none, none, none] = .nx [some S, some (fd cells 0 0 0), none, none, none, none, none, none, none, none, none] := by
    simp [exS, stAsg, evE, evs, evCall, evA, evOne, iv_var, rd, VS.R.bind, VS.R.out, lendOk, varsOf, iS, cl, call, rb, giveBack, bw]
  have s2 : exS (ctxOf fns [] fuel (n + 1)) (.asg 2 (.lst [])) [some S, some (fd cells 0 0 0), none, none, none, none, none, none, none, none, none] = .nx [some S, some (fd cells 0 0 0), some (.lst []), none, none, none, none, none, none, none, none] := by
    simp [exS, stAsg, evE, evs, evO, evOne, VS.R.bind, VS.R.out, im_lst, bw]
  have s3 : exS (ctxOf fns [] fuel (n + 1)) (.asg 3 (.lst [])) [some S, some (fd cells 0 0 0), some (.lst []), none, none, none, none, none, none, none, none] = .nx [some S, some (fd cells 0 0 0), some (.lst []), some (.lst []), none, none, none, none, none, none, none] := by
    simp [exS, stAsg, evE, evs, evO, evOne, VS.R.bind, VS.R.out, im_lst, bw]
  obtain ⟨v, p1, q1, v1, v2, ev⟩ := draw_ev (fuel := fuel) (n := n) (env := [some S, some (fd cells 0 0 0), some (.lst []), some (.lst []), none, none, none, none, none, none, none]) (p := 0) (q := 0) (r := 0) (m := 4) rfl hc (by decide) (by decide) (by decide) (by decide)
  simp only [List.set_cons_succ, List.set_cons_zero] at ev
  have it4 : ∀ A, evI (ctxOf fns [] fuel (n + 1)) (.range [(.bin .Add (.int 1) (dr 4))]) A [some S, some (fd cells 0 0 0), some (.lst []), some (.lst []), none, none, none, none, none, none, none] = .ok (rangeL 0 (1 + v).toNat, fun _ => True) [some S, some (fd cells p1 q1 (0 + 1)), some (.lst []), some (.lst []), none, none, none, none, none, none, none] := fun A => by
    have ok : okR (1 + v) = true := decide_eq_true (by omega)
    simp [evI, evs, itRange, evL, ev2, evE, iv_bin, iv_int, dr_v, ev, VS.R.bind, VS.R.of, im_imm, binD, binC, ok]
  have hlen : (rangeL 0 (1 + v).toNat).length = (1 + v).toNat := by simp [rangeL]
  obtain ⟨env4, e4, k4⟩ := for_cnt (one := oneM fuel n) (chk := fun _ => True) (PM cells (some S)) (fun _ _ _ => trivial) (rangeL 0 (1 + v).toNat) 0 [some S, some (fd cells p1 q1 (0 + 1)), some (.lst []), some (.lst []), none, none, none, none, none, none, none]
    (fun j x env _ hj hP => stepM hc j x env (by omega) hP) ⟨[], [], p1, q1, 0 + 1, none, none, none, none, .nil, rfl, by decide, by decide, rfl⟩
  rw [Nat.zero_add] at k4
  obtain ⟨rows, owns, p, q, r, e4', e6, e7, e8, g, h1, h2, h3, rfl⟩ := k4
  have s4 : exS (ctxOf fns [] fuel (n + 1)) (.fors (.v 4) (.range [(.bin .Add (.int 1) (dr 4))]) bodyM) [some S, some (fd cells 0 0 0), some (.lst []), some (.lst []), none, none, none, none, none, none, none] = .nx [some S, some (fd cells p q r), some (.lst (rows.map tupD)), some (.lst (owns.map tupD)), e4', none, e6, e7, e8, none, none] := by
    simp only [exS, stFor]
    rw [it4]
    exact e4
  have h9 : 1 ≤ rows.length := by omega
  cases g with
  | nil => simp at h9
  | cons gd gt =>
    rename_i row own rs os
    have gg : Goods (row :: rs) (own :: os) := .cons gd gt
    obtain ⟨nums, p2, q2, hnl, en⟩ := nums_ev (fuel := fuel) (n := n) (p := p) (q := q) (r := r) (S2 := some S) (Ch := some (.lst ((row :: rs).map tupD))) (e4 := e4') (e5 := none) (e6 := e6) (e7 := e7) (e8 := e8) (e9 := none) (e10 := none) (own := own) (owns := os) hc h2 (by omega) gd.ne'
    obtain ⟨env5, e5, k5⟩ := loopN (fuel := fuel) (n := n) (S2 := some S) (F := some (fd cells p2 q2 (r + 1 + 1))) gg (by omega) nums [some S, some (fd cells p2 q2 (r + 1 + 1)), some (.lst ((row :: rs).map tupD)), some (.lst ((own :: os).map tupD)), e4', none, e6, e7, e8, none, none] ⟨_, _, _, _, _, _, _, rfl⟩
    have s5 : exS (ctxOf fns [] fuel (n + 1)) (.fors (.v 5) (.seq numsE) bodyN) [some S, some (fd cells p q r), some (.lst ((row :: rs).map tupD)), some (.lst ((own :: os).map tupD)), e4', none, e6, e7, e8, none, none] = .nx env5 := by
      have it : ∀ A, evI (ctxOf fns [] fuel (n + 1)) (.seq numsE) A [some S, some (fd cells p q r), some (.lst ((row :: rs).map tupD)), some (.lst ((own :: os).map tupD)), e4', none, e6, e7, e8, none, none] = .ok (nums.map iI, fun _ => True) [some S, some (fd cells p2 q2 (r + 1 + 1)), some (.lst ((row :: rs).map tupD)), some (.lst ((own :: os).map tupD)), e4', none, e6, e7, e8, none, none] := fun A => by
        have v0 : isVar numsE = none := rfl
        have b0 : bw numsE = false := rfl
        simp only [evI, itSeq, en, VS.R.bind, imms_i, v0, b0]
        simp
      simp only [exS, stFor]
      rw [it]
      exact e5
    obtain ⟨a4, a5, a6, a7, a8, a9, a10, rfl⟩ := k5
    refine ⟨[some (fd cells p2 q2 (r + 1 + 1)), some (.lst ((row :: rs).map tupD)), some (.lst ((own :: os).map tupD)), a4, a5, a6, a7, a8, a9, a10], ?_⟩
    unfold body3
    rw [st_nx s1, st_nx s2, st_nx s3, st_nx s4, st_nx s5]
    simp [exB, exS, oSeq, evOne, evE, VS.R.bind, VS.R.out, im_imm]
theorem answer : ∀ ns : List Int, ns.length ≤ 63 → ∃ fuel fin, runFn fns [] fuel 12 3 [.imm (.list (ns.map .int))] = .ok (.imm (.bool true)) fin := fun ns hn => by
  obtain ⟨env, e⟩ := law_ev (fuel := 0) (n := 10) ns hn
  refine ⟨0, [.imm (.list (ns.map .int))], ?_⟩
  rw [runFn_succ (d := fn3) rfl rfl, body3_eq]
  have e0 : ([D.imm (.list (ns.map .int))].map some ++ List.replicate (fn3.ns - fn3.np) none) = [some (.imm (.list (ns.map .int))), none, none, none, none, none, none, none, none, none, none] := rfl
  rw [e0, e]
  rfl
end V51

open PySem PySem.W PySem.Calls PyProof.Rows
set_option maxHeartbeats 0 in
theorem PySem.Challenge.cw_cutstand_k51_the_cut_of_a_number_holds : PySem.Challenge.rw_cutstand_k51_the_cut_of_a_number.Holds := by
  w_on; o_law
  refine HandSHeadRun.head_any (r := PySem.W.OpenLaw.row PySem.Challenge.rw_cutstand_k51_the_cut_of_a_number) (q := PySem.W.view (PySem.W.OpenLaw.row PySem.Challenge.rw_cutstand_k51_the_cut_of_a_number).prog [5]) (H := V51.hk) (ob := V51.ob) (M := 2000) (loose := ["line_by", "_law_feed", "_law_draw"]) (d := HandSHeadRun.topDef (PySem.W.OpenLaw.row PySem.Challenge.rw_cutstand_k51_the_cut_of_a_number).prog 5) (kwd := []) V51.ob_eq
    (by kernel_rfl) (fun s => by kernel_rfl) V51.run (by kernel_rfl) (by kernel_rfl) (by kernel_rfl) (by rfl) (by first | assumption | decide +kernel) (by decide +kernel) ⟨rfl, rfl, rfl, rfl, rfl, by decide +kernel⟩ ?hw ?hc
  case hw => w_witness2
  case hc =>
    have nmE : (HandSHeadRun.topDef (PySem.W.OpenLaw.row PySem.Challenge.rw_cutstand_k51_the_cut_of_a_number).prog 5).name = ("law" : PySem.Str) := by kernel_rfl
    refine VS.walk_v (l := PySem.Challenge.rw_cutstand_k51_the_cut_of_a_number) (n := 63) (k := 12) (g := 3) (fns := V51.fns) (tab := V51.tab) (gcs := []) (consts := []) rfl (by decide) (by kernel_rfl) ⟨rfl, by decide, by decide⟩ (by rw [nmE]; rfl) (fun w mg h Y G => ?_) V51.answer
    obtain ⟨K, KX, c⟩ := Y
    exact ⟨K, KX, V51.prg KX G c⟩

