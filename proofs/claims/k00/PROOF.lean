import PyProof.Rows.All
import Wide.All
import OpenK.AllK
import Wide.FinOn
import HandS.ForMost
import HandS.ForSpec
import HandS.Wide
import HandS.Gcd
import HandS.IsInst
import HandS.TupAny
import HandS.TupMul
import HandS.Zip
import HandS.Deep
import HandS.Walk
import HandS.Lambda
import HandS.EndTab
import HandS.ExcIs
import HandS.ExcCtx
import HandS.HotCalls
import HandS.Style
import HandS.Words
import KE.KNestM
import KE.KStateDown
import KE.KExcLine
import PySem.Challenge.RW_figuresproved_k00_whole_fractions
set_option Elab.async false
set_option linter.all false
set_option maxRecDepth 100000
set_option maxHeartbeats 8000000
/-! The evaluator: values D without a heap, expressions Ex, statements Sx, their meaning as plain functions. -/
namespace Ev
open PySem

/-- the two numbers of the cup -/
abbrev Cup := Int × Int
inductive D where
  | non | bl (b : Bool) | int (i : Int) | str (x : Str) | tup (xs : List D) | lst (xs : List D) | fn (k : Nat) | cup | exc (k : Nat)
  deriving Inhabited
inductive Tg where
  | n (i : Nat) | t (ts : List Tg)
inductive Ty where
  | int | bool | str | tuple | list
  deriving DecidableEq
inductive Bi where
  | len | abs | int | tuple | all | any | sum | gcd
  deriving DecidableEq
inductive Ex where
  | v (i : Nat)
  | c (d : D)
  | g (x : Str) (d : D)
  | f (k : Nat)
  | tup (es : List Ex) | lst (es : List Ex)
  | bin (o : Operator) (a b : Ex)
  | neg (a : Ex) | not (a : Ex)
  | cmp (o : CmpOp) (a b : Ex)
  | ch (o o' : CmpOp) (a b c : Ex)
  | bop (o : BoolOp) (es : List Ex)
  | ite (c a b : Ex)
  | ix (a b : Ex)
  | call (k : Nat) (es : List Ex)
  | callv (i : Nat) (es : List Ex)
  | bi (b : Bi) (es : List Ex)
  | isi (a : Ex) (t : Ty)
  | rng (a : Ex)
  | zip (a b : Ex)
  | lc (own : List Nat) (tg : Tg) (src : Ex) (ifs : List Ex) (elt : Ex)
  | err (e : Ex)
  | isE (i : Nat) (t : List (Nat × Bool)) (k : Nat)
  | join (a b : Ex)
inductive Sx where
  | set (i : Nat) (e : Ex)
  | asg (ts : List Tg) (e : Ex)
  | par (is : List Nat) (es : List Ex)
  | sub (i : Nat) (k e : Ex)
  | app (i : Nat) (e : Ex)
  | exp (e : Ex)
  | ret (e : Ex)
  | ite (c : Ex) (a b : List Sx)
  | for_ (tg : Tg) (src : Ex) (body : List Sx)
  | raise (k : Nat)
  | pass

inductive Re (α : Type) where
  | ok (a : α) (u : Cup) | exc (k : Nat) (u : Cup) | bad
def Re.bind {α β : Type} (r : Re α) (f : α → Cup → Re β) : Re β := match r with
  | .ok a u => f a u
  | .exc k u => .exc k u
  | .bad => .bad
/-- a slot: is it the only holder of its list; its value -/
abbrev Sl := Option (Bool × D)
abbrev En := List Sl
inductive SR where
  | next (e : En) (u : Cup) | ret (d : D) (u : Cup) | exc (k : Nat) (u : Cup) | bad

/-! ### values -/
mutual
def D.flat : D → Bool
  | .lst _ => false
  | .tup xs => D.flats xs
  | _ => true
def D.flats : List D → Bool
  | [] => true
  | x :: xs => x.flat && D.flats xs
end
def D.ownable : D → Bool
  | .lst xs => D.flats xs
  | _ => false
mutual
def D.toP : D → Option PyData
  | .non => some .none
  | .bl b => some (.bool b)
  | .int i => some (.int i)
  | .str x => some (.str x)
  | .tup xs => match D.toPs xs with | some ps => some (.tuple ps) | none => none
  | .lst xs => match D.toPs xs with | some ps => some (.list ps) | none => none
  | .fn _ => none
  | .cup => none
  | .exc _ => none
def D.toPs : List D → Option (List PyData)
  | [] => some []
  | x :: xs => match x.toP, D.toPs xs with | some p, some ps => some (p :: ps) | _, _ => none
end
def D.eq (a b : D) : Option Bool := match a.toP, b.toP with
  | some p, some q => if SeqAt.shaped p && SeqAt.shaped q then some (PyData.eqv p q) else none
  | _, _ => none
/-- scalars as the layer's values -/
def D.sc : D → Option L2.V
  | .non => some .non
  | .bl b => some (.bl b)
  | .int i => some (.int i)
  | .str x => some (.str x)
  | _ => none
def scs : List D → Option (List L2.V)
  | [] => some []
  | x :: xs => match x.sc, scs xs with | some v, some vs => some (v :: vs) | _, _ => none
def bls : List D → Option (List Bool)
  | [] => some []
  | .bl b :: xs => match bls xs with | some bs => some (b :: bs) | none => none
  | _ :: _ => none
def allI : List D → Option (List Int)
  | [] => some []
  | .int b :: xs => match allI xs with | some bs => some (b :: bs) | none => none
  | _ :: _ => none
def mulOk (i j : Int) : Bool := decide (i.natAbs < 18446744073709551616) || decide (j.natAbs < 18446744073709551616) || decide (i.natAbs.log2 + j.natAbs.log2 < 1000000)
def big : Nat := 16777216
def rep (k : Nat) (xs : List D) : List D := (List.replicate k xs).flatten

def binV (o : Operator) (x y : D) : Option D := match o, x, y with
  | .Add, .int i, .int j => some (.int (i + j))
  | .Sub, .int i, .int j => some (.int (i - j))
  | .Mult, .int i, .int j => if mulOk i j then some (.int (i * j)) else none
  | .FloorDiv, .int i, .int j => if 0 < j ∧ j.natAbs.log2 < 9000 then some (.int (i / j)) else none
  | .Mod, .int i, .int j => if 0 < j then some (.int (i % j)) else none
  | .Pow, .int i, .int j => if 0 ≤ j ∧ j ≤ 1000000 ∧ i.natAbs < 18446744073709551616 then some (.int (i ^ j.toNat)) else none
  | .Add, .lst xs, .lst ys => if xs.length + ys.length ≤ big then some (.lst (xs ++ ys)) else none
  | .Add, .tup xs, .tup ys => if xs.length + ys.length ≤ big then some (.tup (xs ++ ys)) else none
  | .Mult, .lst xs, .int k => if 0 ≤ k ∧ k < 1000000 ∧ xs.length * k.toNat ≤ big then some (.lst (rep k.toNat xs)) else none
  | _, _, _ => none
def inS (x : D) (ys : List D) : Option Bool := match x.sc, scs ys with
  | some v, some vs => some (L2.inV v vs)
  | _, _ => none
def D.isNon : D → Bool
  | .non => true
  | _ => false
def cmpV (o : CmpOp) (x y : D) : Option D := match o with
  | .Eq => (D.eq x y).map .bl
  | .NotEq => (D.eq x y).map fun b => .bl (!b)
  | .Lt => match x, y with | .int i, .int j => some (.bl (decide (i < j))) | _, _ => none
  | .LtE => match x, y with | .int i, .int j => some (.bl (decide (i ≤ j))) | _, _ => none
  | .Gt => match x, y with | .int i, .int j => some (.bl (decide (j < i))) | _, _ => none
  | .GtE => match x, y with | .int i, .int j => some (.bl (decide (j ≤ i))) | _, _ => none
  | .In => match y with | .tup ys => (inS x ys).map .bl | .lst ys => (inS x ys).map .bl | _ => none
  | .NotIn => match y with | .tup ys => (inS x ys).map fun b => .bl (!b) | .lst ys => (inS x ys).map fun b => .bl (!b) | _ => none
  | .Is => match y with | .non => some (.bl x.isNon) | _ => none
  | .IsNot => match y with | .non => some (.bl (!x.isNon)) | _ => none
def ixV (x y : D) : Option D := match y with
  | .int i => match x with
    | .tup xs => L2.atI xs i
    | .lst xs => L2.atI xs i
    | _ => none
  | _ => none
/-- the cup's items -/
def ixC (u : Cup) (y : D) : Option D := match y with
  | .int i => L2.atI [D.int u.1, D.int u.2] i
  | _ => none
def isiV (t : Ty) : D → Option Bool
  | .non => some false
  | .bl _ => some (decide (t = .bool) || decide (t = .int))
  | .int _ => some (decide (t = .int))
  | .str _ => some (decide (t = .str))
  | .tup _ => some (decide (t = .tuple))
  | .lst _ => some (decide (t = .list))
  | .fn _ => none
  | .cup => none
  | .exc _ => none
def biV (b : Bi) (xs : List D) : Option D := match b, xs with
  | .len, [.tup ys] => some (.int (ys.length : Int))
  | .len, [.lst ys] => some (.int (ys.length : Int))
  | .abs, [.int i] => some (.int (if i < 0 then -i else i))
  | .int, [.int i] => some (.int i)
  | .tuple, [.tup ys] => some (.tup ys)
  | .tuple, [.lst ys] => some (.tup ys)
  | .all, [.lst ys] => (bls ys).map fun bs => .bl (bs.all id)
  | .any, [.lst ys] => (bls ys).map fun bs => .bl (bs.any id)
  | .sum, [.lst ys] => (allI ys).map fun ns => .int ns.sum
  | .gcd, [.int i, .int j] => some (.int ((Nat.gcd i.natAbs j.natAbs : Nat) : Int))
  | _, _ => none
def stl : List D → Option (List Str)
  | [] => some []
  | .str b :: xs => match stl xs with | some bs => some (b :: bs) | none => none
  | _ :: _ => none
def joinV (a : Str) (y : D) : Option D := match y with
    | .lst ds => match stl ds with | some ys => if (ys.map (·.length)).sum + ys.length * a.length ≤ 16777216 then some (.str (Txt.join a ys)) else none | none => none
    | _ => none
def D.items : D → Option (List D)
  | .tup xs => some xs
  | .lst xs => some xs
  | _ => none
def range (n : Int) : List D := (List.range n.toNat).map fun (k : Nat) => D.int (0 + (k : Int))

/-! ### slots -/
mutual
def Tg.put : Tg → D → En → Option En
  | .n i, d, env => some (env.set i (some (false, d)))
  | .t ts, d, env => match d with
    | .tup ds => Tg.puts ts ds env
    | _ => none
def Tg.puts : List Tg → List D → En → Option En
  | [], [], env => some env
  | x :: xs, d :: ds, env => match x.put d env with
    | some env' => Tg.puts xs ds env'
    | none => none
  | _, _, _ => none
end
mutual
def Tg.slots : Tg → List Nat
  | .n i => [i]
  | .t ts => Tg.slotss ts
def Tg.slotss : List Tg → List Nat
  | [] => []
  | x :: xs => x.slots ++ Tg.slotss xs
end
def wipeE (env : En) : List Nat → En
  | [] => env
  | v :: vs => (wipeE env vs).set v none
def frz (is : List Nat) (i : Nat) : Sl → Sl
  | some (b, d) => some (b && !is.contains i, d)
  | none => none
def freeze (is : List Nat) (env : En) : En := env.mapIdx fun i s => frz is i s
/-! the slots that an expression reads -/
mutual
def Ex.fv : Ex → List Nat
  | .v i => [i]
  | .c _ | .g _ _ | .f _ => []
  | .tup es | .lst es | .bop _ es | .call _ es | .bi _ es => Ex.fvs es
  | .callv i es => i :: Ex.fvs es
  | .bin _ x y | .cmp _ x y | .ix x y | .zip x y | .join x y => x.fv ++ y.fv
  | .isE i _ _ => [i]
  | .neg x | .not x | .isi x _ | .rng x | .err x => x.fv
  | .ch _ _ x y z | .ite x y z => x.fv ++ (y.fv ++ z.fv)
  | .lc own _ src ifs elt => src.fv ++ (Ex.fvs ifs ++ elt.fv).filter fun i => !own.contains i
def Ex.fvs : List Ex → List Nat
  | [] => []
  | e :: es => e.fv ++ Ex.fvs es
end
/-- does it make a new list -/
def Ex.fresh : Ex → Bool
  | .lst _ => true
  | .bin .Add _ _ => true
  | .bin .Mult _ _ => true
  | .lc .. => true
  | _ => false

/-! ### expressions -/
def optCons (y : Option D) (ys : List D) : List D := match y with
  | some z => z :: ys
  | none => ys
def lcLoop (f : D → Cup → Re (Option D)) : List D → Cup → Re (List D)
  | [], u => .ok [] u
  | x :: xs, u => (f x u).bind fun y u1 => (lcLoop f xs u1).bind fun ys u2 => .ok (optCons y ys) u2
def noExc {α : Type} : Re α → Re α
  | .exc _ _ => .bad
  | r => r
def lift {α : Type} (o : Option α) (u : Cup) : Re α := match o with | some a => .ok a u | none => .bad
def ixR (x y : D) (u : Cup) : Re D := match x with
  | .cup => lift (ixC u y) u
  | _ => lift (ixV x y) u
/-- what the law's words for an error's class are -/
abbrev Words := Nat → Option Str
section
variable (wd : Words) (nw : Str) (call : Nat → List D → Cup → Re D)
mutual
def evE : Ex → En → Cup → Re D
  | .v i, env, u => match env[i]? with
    | some (some (_, d)) => .ok d u
    | _ => .bad
  | .c d, _, u => .ok d u
  | .g _ d, _, u => .ok d u
  | .f k, _, u => .ok (.fn k) u
  | .tup es, env, u => (evL es env u).bind fun ds u1 => if ds.length ≤ big then .ok (.tup ds) u1 else .bad
  | .lst es, env, u => (evL es env u).bind fun ds u1 => if ds.length ≤ big then .ok (.lst ds) u1 else .bad
  | .bin o a b, env, u => (evE a env u).bind fun x u1 => (evE b env u1).bind fun y u2 => lift (binV o x y) u2
  | .neg a, env, u => (evE a env u).bind fun x u1 => match x with | .int i => .ok (.int (-i)) u1 | _ => .bad
  | .not a, env, u => (evE a env u).bind fun x u1 => match x with | .bl b => .ok (.bl (!b)) u1 | _ => .bad
  | .cmp o a b, env, u => (evE a env u).bind fun x u1 => (evE b env u1).bind fun y u2 => lift (cmpV o x y) u2
  | .ch o o' a b c, env, u => (evE a env u).bind fun x u1 => (evE b env u1).bind fun y u2 => match cmpV o x y with
    | some (.bl true) => (evE c env u2).bind fun z u3 => lift (cmpV o' y z) u3
    | some (.bl false) => .ok (.bl false) u2
    | _ => .bad
  | .bop o es, env, u => evB o es env u
  | .ite c a b, env, u => (evE c env u).bind fun x u1 => match x with
    | .bl true => evE a env u1
    | .bl false => evE b env u1
    | _ => .bad
  | .ix a b, env, u => (evE a env u).bind fun x u1 => (evE b env u1).bind fun y u2 => ixR x y u2
  | .call k es, env, u => (evL es env u).bind fun ds u1 => call k ds u1
  | .callv i es, env, u => match env[i]? with
    | some (some (_, .fn k)) => (evL es env u).bind fun ds u1 => call k ds u1
    | _ => .bad
  | .bi b es, env, u => (evL es env u).bind fun ds u1 => lift (biV b ds) u1
  | .isi a t, env, u => (evE a env u).bind fun x u1 => match isiV t x with | some b => .ok (.bl b) u1 | none => .bad
  | .rng a, env, u => (evE a env u).bind fun x u1 => match x with
    | .int n => if -4611686018427387904 ≤ n ∧ n < 4611686018427387904 then .ok (.lst (range n)) u1 else .bad
    | _ => .bad
  | .zip a b, env, u => (evE a env u).bind fun x u1 => (evE b env u1).bind fun y u2 => match x, y with
    | .lst xs, .lst ys => .ok (.lst ((xs.zip ys).map fun p => .tup [p.1, p.2])) u2
    | .tup xs, .tup ys => .ok (.lst ((xs.zip ys).map fun p => .tup [p.1, p.2])) u2
    | _, _ => .bad
  | .lc own tg src ifs elt, env, u => (evE src env u).bind fun x u1 => match x.items with
    | some xs => noExc ((lcLoop (fun d u2 => match tg.put d (wipeE env own) with
        | some env2 => (evB .And ifs env2 u2).bind fun t u3 => match t with
          | .bl true => (evE elt env2 u3).bind fun y u4 => .ok (some y) u4
          | .bl false => .ok none u3
          | _ => .bad
        | none => .bad) xs u1).bind fun ys u5 => if xs.length ≤ big then .ok (.lst ys) u5 else .bad)
    | none => .bad
  | .err e, env, u => match evE e env u with
    | .ok _ u1 => .ok (.str nw) u1
    | .exc k u1 => match wd k with | some x => .ok (.str x) u1 | none => .bad
    | .bad => .bad
  | .isE i t _, env, u => match env[i]? with
    | some (some (_, .exc j)) => match t.lookup j with | some b => .ok (.bl b) u | none => .bad
    | _ => .bad
  | .join a b, env, u => (evE a env u).bind fun x u1 => match x with
    | .str s => (evE b env u1).bind fun y u2 => lift (joinV s y) u2
    | _ => .bad
def evL : List Ex → En → Cup → Re (List D)
  | [], _, u => .ok [] u
  | e :: es, env, u => (evE e env u).bind fun d u1 => (evL es env u1).bind fun ds u2 => .ok (d :: ds) u2
def evB : BoolOp → List Ex → En → Cup → Re D
  | .And, [], _, u => .ok (.bl true) u
  | .Or, [], _, u => .ok (.bl false) u
  | .And, e :: es, env, u => (evE e env u).bind fun x u1 => match x with
    | .bl true => evB .And es env u1
    | .bl false => .ok (.bl false) u1
    | _ => .bad
  | .Or, e :: es, env, u => (evE e env u).bind fun x u1 => match x with
    | .bl true => .ok (.bl true) u1
    | .bl false => evB .Or es env u1
    | _ => .bad
end

/-! ### statements -/
def ofRe (r : Re D) (f : D → Cup → SR) : SR := match r with
  | .ok d u => f d u
  | .exc k u => .exc k u
  | .bad => .bad
def setAll : List Nat → List D → En → En
  | i :: is, d :: ds, env => setAll is ds (env.set i (some (false, d)))
  | _, _, env => env
def setPar : List Nat → List Ex → List D → En → En
  | i :: is, e :: es, d :: ds, env => setPar is es ds (env.set i (some (e.fresh && d.ownable, d)))
  | _, _, _, env => env
def forLoop (f : D → En → Cup → SR) : List D → En → Cup → SR
  | [], env, u => .next env u
  | x :: xs, env, u => match f x env u with
    | .next env1 u1 => forLoop f xs env1 u1
    | r => r
/-- behind an expression whose value is kept -/
def after (e : Ex) (d : D) (env : En) : En := if d.flat || (e.fresh && d.ownable) then env else freeze e.fv env
mutual
def evS : Sx → En → Cup → SR
  | .set i e, env, u => ofRe (evE wd nw call e env u) fun d u1 => .next ((after e d env).set i (some (e.fresh && d.ownable, d))) u1
  | .asg ts e, env, u => ofRe (evE wd nw call e env u) fun d u1 => match (Tg.t ts).put d (after e d env) with
    | some env1 => .next env1 u1
    | none => .bad
  | .par is es, env, u => match evL wd nw call es env u with
    | .ok ds u1 => if (es.zip ds).all (fun p => (p.1.fresh && p.2.ownable) || p.2.flat) then .next (setPar is es ds env) u1 else .bad
    | .exc k u1 => .exc k u1
    | .bad => .bad
  | .sub i k e, env, u => match env[i]? with
    | some (some (_, .cup)) => ofRe (evE wd nw call e env u) fun d u1 => ofRe (evE wd nw call k env u1) fun y u2 => match y, d with
      | .int 0, .int z => .next env (z, u2.2)
      | .int 1, .int z => .next env (u2.1, z)
      | _, _ => .bad
    | _ => .bad
  | .app i e, env, u => match env[i]? with
    | some (some (true, .lst xs)) => ofRe (evE wd nw call e env u) fun d u1 => if d.flat && decide (xs.length < big) then .next (env.set i (some (true, .lst (xs ++ [d])))) u1 else .bad
    | _ => .bad
  | .exp e, env, u => ofRe (evE wd nw call e env u) fun d u1 => .next env u1
  | .ret e, env, u => ofRe (evE wd nw call e env u) fun d u1 => .ret d u1
  | .ite c a b, env, u => ofRe (evE wd nw call c env u) fun d u1 => match d with
    | .bl true => evSs a env u1
    | .bl false => evSs b env u1
    | _ => .bad
  | .for_ tg src body, env, u => ofRe (evE wd nw call src env u) fun d u1 => match d.items with
    | some xs => forLoop (fun x env1 u2 => match tg.put x env1 with
      | some env2 => evSs body env2 u2
      | none => .bad) xs (freeze src.fv env) u1
    | none => .bad
  | .raise k, _, u => .exc k u
  | .pass, env, u => .next env u
def evSs : List Sx → En → Cup → SR
  | [], env, u => .next env u
  | s :: ss, env, u => match evS s env u with
    | .next env1 u1 => evSs ss env1 u1
    | r => r
end
end

/-- a def: its parameters' and its names' number, its body -/
structure FD where
  np : Nat
  nn : Nat
  body : List Sx
def start (ds : List D) (nn : Nat) : En := ds.map (fun d => some (false, d)) ++ List.replicate (nn - ds.length) none
def run (wd : Words) (nw : Str) (P : List FD) : Nat → Nat → List D → Cup → Re D
  | 0, _, _, _ => .bad
  | n + 1, k, ds, u => match P[k]? with
    | some fd => if ds.length = fd.np then
        match evSs wd nw (run wd nw P n) fd.body (start ds fd.nn) u with
        | .next _ u1 => .ok .non u1
        | .ret d u1 => .ok d u1
        | .exc j u1 => .exc j u1
        | .bad => .bad
      else .bad
    | none => .bad
end Ev

/-! How the evaluator's values stand in the layer's heap. -/
namespace Ev
open PySem PySem.Spec PyProof.Rows L2 LamX

/-- what the whole program gives: the written part, the module's names, the defs' and the classes' addresses, the tables of code objects -/
structure G where
  K : PySem.W.Frag
  mg : Str → Option Value
  fa : Nat → Addr
  ca : Nat → Addr
  T : List (Addr × Str)
  kn : Nat → Prop
  /-- the exception that is handled, its class -/
  xa : Addr
  xk : Nat

mutual
/-- the value v is d at the heap H; C is the cup's address; all lists within lie in A -/
def Rp (g : G) (C : Addr) (H : Hp) (A : Addr → Prop) : D → V → Prop
  | .non, v => v = .non
  | .bl b, v => v = .bl b
  | .int i, v => v = .int i
  | .str x, v => v = .str x
  | .tup ds, v => ∃ a vs, v = .ref a ∧ SqT g.K H a vs ∧ Rps g C H A ds vs
  | .lst ds, v => ∃ a vs, v = .ref a ∧ H a = some (.lst vs) ∧ A a ∧ a ≠ C ∧ Rps g C H A ds vs
  | .fn k, v => g.kn k ∧ v = .ref (g.fa k)
  | .cup, v => v = .ref C
  | .exc k, v => v = .ref g.xa ∧ k = g.xk
def Rps (g : G) (C : Addr) (H : Hp) (A : Addr → Prop) : List D → List V → Prop
  | [], vs => vs = []
  | d :: ds, vs => ∃ v r, vs = v :: r ∧ Rp g C H A d v ∧ Rps g C H A ds r
end

section
variable {g : G} {C : Addr} {H H' : Hp} {A A' : Addr → Prop}
mutual
theorem Rp.move (ht : ∀ a vs, SqT g.K H a vs → SqT g.K H' a vs) (hl : ∀ a vs, H a = some (.lst vs) → A a → a ≠ C → H' a = some (.lst vs) ∧ A' a) :
    ∀ (d : D) (v : V), Rp g C H A d v → Rp g C H' A' d v
  | .non, v, h => h
  | .bl b, v, h => h
  | .int i, v, h => h
  | .str x, v, h => h
  | .tup ds, v, h => by
    obtain ⟨a, vs, e, h1, h2⟩ := h
    exact ⟨a, vs, e, ht _ _ h1, Rps.move ht hl ds vs h2⟩
  | .lst ds, v, h => by
    obtain ⟨a, vs, e, h1, h2, h3, h4⟩ := h
    obtain ⟨k1, k2⟩ := hl _ _ h1 h2 h3
    exact ⟨a, vs, e, k1, k2, h3, Rps.move ht hl ds vs h4⟩
  | .fn k, v, h => h
  | .cup, v, h => h
  | .exc k, v, h => h
theorem Rps.move (ht : ∀ a vs, SqT g.K H a vs → SqT g.K H' a vs) (hl : ∀ a vs, H a = some (.lst vs) → A a → a ≠ C → H' a = some (.lst vs) ∧ A' a) :
    ∀ (ds : List D) (vs : List V), Rps g C H A ds vs → Rps g C H' A' ds vs
  | [], vs, h => h
  | d :: ds, vs, h => by
    obtain ⟨v, r, e, h1, h2⟩ := h
    exact ⟨v, r, e, Rp.move ht hl d v h1, Rps.move ht hl ds r h2⟩
end
mutual
theorem Rp.ofFlat : ∀ (d : D) (v : V), d.flat = true → Rp g C H A d v → Rp g C H A' d v
  | .non, v, _, h => h
  | .bl b, v, _, h => h
  | .int i, v, _, h => h
  | .str x, v, _, h => h
  | .tup ds, v, f, h => by
    obtain ⟨a, vs, e, h1, h2⟩ := h
    exact ⟨a, vs, e, h1, Rps.ofFlat ds vs (by simpa [D.flat] using f) h2⟩
  | .lst ds, v, f, h => by simp [D.flat] at f
  | .fn k, v, _, h => h
  | .cup, v, _, h => h
  | .exc k, v, _, h => h
theorem Rps.ofFlat : ∀ (ds : List D) (vs : List V), D.flats ds = true → Rps g C H A ds vs → Rps g C H A' ds vs
  | [], vs, _, h => h
  | d :: ds, vs, f, h => by
    obtain ⟨v, r, e, h1, h2⟩ := h
    simp only [D.flats, Bool.and_eq_true] at f
    exact ⟨v, r, e, Rp.ofFlat d v f.1 h1, Rps.ofFlat ds r f.2 h2⟩
end
theorem Rps.length : ∀ {ds : List D} {vs : List V}, Rps g C H A ds vs → ds.length = vs.length
  | [], vs, h => by
    have e : vs = [] := h
    rw [e]
    rfl
  | d :: ds, vs, h => by
    obtain ⟨v, r, e, h1, h2⟩ := h
    rw [e, List.length_cons, List.length_cons, Rps.length h2]
theorem Rps.get : ∀ {ds : List D} {vs : List V} {i : Nat} {d : D}, Rps g C H A ds vs → ds[i]? = some d → ∃ v, vs[i]? = some v ∧ Rp g C H A d v
  | [], vs, i, d, h, e => by simp at e
  | x :: ds, vs, 0, d, h, e => by
    obtain ⟨v, r, rfl, h1, h2⟩ := h
    simp at e
    subst e
    exact ⟨v, rfl, h1⟩
  | x :: ds, vs, i + 1, d, h, e => by
    obtain ⟨v, r, rfl, h1, h2⟩ := h
    obtain ⟨w, e1, e2⟩ := Rps.get (i := i) (d := d) h2 (by simpa using e)
    exact ⟨w, by simpa using e1, e2⟩
theorem Rps.app : ∀ {ds es : List D} {vs ws : List V}, Rps g C H A ds vs → Rps g C H A es ws → Rps g C H A (ds ++ es) (vs ++ ws)
  | [], es, vs, ws, h, k => by
    have e : vs = [] := h
    subst e
    exact k
  | d :: ds, es, vs, ws, h, k => by
    obtain ⟨v, r, rfl, h1, h2⟩ := h
    exact ⟨v, r ++ ws, rfl, h1, Rps.app h2 k⟩
theorem Rps.rep {ds : List D} {vs : List V} (h : Rps g C H A ds vs) : ∀ k : Nat, Rps g C H A (Ev.rep k ds) (List.replicate k vs).flatten
  | 0 => rfl
  | k + 1 => by
    unfold Ev.rep
    rw [List.replicate_succ, List.replicate_succ, List.flatten_cons, List.flatten_cons]
    exact h.app (Rps.rep h k)
theorem Rps.one {d : D} {v : V} (h : Rp g C H A d v) : Rps g C H A [d] [v] := ⟨v, [], rfl, h, rfl⟩
theorem Rp.mono (hA : ∀ a, A a → A' a) {d : D} {v : V} (h : Rp g C H A d v) : Rp g C H A' d v := Rp.move (fun _ _ x => x) (fun a _ h1 h2 _ => ⟨h1, hA a h2⟩) d v h
theorem Rps.mono (hA : ∀ a, A a → A' a) {ds : List D} {vs : List V} (h : Rps g C H A ds vs) : Rps g C H A' ds vs := Rps.move (fun _ _ x => x) (fun a _ h1 h2 _ => ⟨h1, hA a h2⟩) ds vs h
end

/-- all that was tracked is as it was, but the cup and the tables -/
structure Ext (C : Addr) (H H' : Hp) : Prop where
  cup : ∃ xs, H C = some (.lst xs)
  cup2 : ∃ xs, H' C = some (.lst xs)
  keep : ∀ b o, H b = some o → b ≠ C → (∀ ps, o ≠ .tbl ps) → H' b = some o
/-- there is no list at a -/
def NL (H : Hp) (a : Addr) : Prop := ∀ vs, H a ≠ some (.lst vs)
theorem NL.of {H : Hp} {a : Addr} (h : H a = none) : NL H a := fun vs e => by
  rw [h] at e
  cases e
theorem Ext.free {C : Addr} {H H' : Hp} (x : Ext C H H') (b : Addr) (n : NL H' b) : NL H b := fun vs e => by
  by_cases h : b = C
  · obtain ⟨xs, k⟩ := x.cup2
    exact n xs (by rw [h]; exact k)
  · exact n vs (x.keep b _ e h fun ps z => by cases z)
/-- the cup and the tables are well -/
structure Wd (g : G) (C : Addr) (H : Hp) (u : Cup) : Prop where
  cup : H C = some (.lst [.int u.1, .int u.2])
  tabs : Tabs g.T H
section
variable {g : G} {C : Addr} {H H1 H2 H' : Hp} {A A' : Addr → Prop} {u u' : Cup}
theorem Wd.refl (w : Wd g C H u) : Ext C H H := ⟨⟨_, w.cup⟩, ⟨_, w.cup⟩, fun _ _ h _ _ => h⟩
theorem Ext.trans (a : Ext C H H1) (b : Ext C H1 H2) : Ext C H H2 := ⟨a.cup, b.cup2, fun c o h n m => b.keep c o (a.keep c o h n m) n m⟩
theorem Ext.sqT {K : PySem.W.Frag} (x : Ext C H H') {a : Addr} {vs : List V} (h : SqT K H a vs) : SqT K H' a vs := by
  obtain ⟨xs, hc⟩ := x.cup
  rcases h with (h | ⟨o, h⟩) | h
  · exact .inl (.inl (x.keep _ _ h (fun e => by rw [e, hc] at h; cases h) (fun ps e => by cases e)))
  · exact .inl (.inr ⟨o, x.keep _ _ h (fun e => by rw [e, hc] at h; cases h) (fun ps e => by cases e)⟩)
  · exact .inr h
theorem Ext.lst (x : Ext C H H') {a : Addr} {vs : List V} (h : H a = some (.lst vs)) (n : a ≠ C) : H' a = some (.lst vs) := x.keep _ _ h n (fun ps e => by cases e)
theorem Ext.rp (x : Ext C H H') {d : D} {v : V} (h : Rp g C H A d v) : Rp g C H' A d v := Rp.move (fun _ _ k => x.sqT k) (fun a vs h1 h2 h3 => ⟨x.lst h1 h3, h2⟩) d v h
theorem Ext.rps (x : Ext C H H') {d : List D} {v : List V} (h : Rps g C H A d v) : Rps g C H' A d v := Rps.move (fun _ _ k => x.sqT k) (fun a vs h1 h2 h3 => ⟨x.lst h1 h3, h2⟩) d v h
/-- a new object -/
theorem Wd.new (w : Wd g C H u) {p : Addr} {o : HO} (n : H p = none) : Ext C H (upd H p o) ∧ Wd g C (upd H p o) u := by
  have k : ∀ b x, H b = some x → upd H p o b = some x := fun b x h => by
    rw [upd_ne (ne_of_none h n)]
    exact h
  exact ⟨⟨⟨_, w.cup⟩, ⟨_, k _ _ w.cup⟩, fun b x h _ _ => k b x h⟩, k _ _ w.cup, w.tabs.ext k⟩
theorem Wd.newX (w : Wd g C H u) {p : Addr} {o : HO} (n : H p = none) : Ext C H (upd H p o) := (w.new n).1
theorem Wd.newW (w : Wd g C H u) {p : Addr} {o : HO} (n : H p = none) : Wd g C (upd H p o) u := (w.new n).2
end

/-- as Ext, but the lists at B may have changed (they are lists still) -/
structure ExtB (C : Addr) (B : Addr → Prop) (H H' : Hp) : Prop where
  keep : ∀ b o, H b = some o → b ≠ C → ¬ B b → (∀ ps, o ≠ .tbl ps) → H' b = some o
  lst : ∀ b vs, H b = some (.lst vs) → ∃ ws, H' b = some (.lst ws)
section
variable {g : G} {C : Addr} {H H1 H2 H' : Hp} {A A' B B' : Addr → Prop}
theorem Ext.toB (x : Ext C H H') : ExtB C B H H' := ⟨fun b o h n _ m => x.keep b o h n m, fun b vs h => by
  by_cases e : b = C
  · obtain ⟨ws, k⟩ := x.cup2
    exact ⟨ws, by rw [e]; exact k⟩
  · exact ⟨vs, x.lst h e⟩⟩
theorem ExtB.free (x : ExtB C B H H') (b : Addr) (n : NL H' b) : NL H b := fun vs e => by
  obtain ⟨ws, k⟩ := x.lst b vs e
  exact n ws k
theorem ExtB.toE (x : ExtB C B H H') (hB : ∀ a, ¬ B a) (hc : ∃ xs, H C = some (.lst xs)) : Ext C H H' := ⟨hc, let ⟨xs, k⟩ := hc; x.lst C xs k, fun b o h n m => x.keep b o h n (hB b) m⟩
theorem ExtB.trans (a : ExtB C B H H1) (b : ExtB C B' H1 H2) (s : ∀ c, B' c → (∃ vs, H1 c = some (.lst vs)) ∧ (B c ∨ NL H c)) : ExtB C B H H2 := by
  refine ⟨fun c o h n nb m => ?_, fun c vs h => ?_⟩
  · have h1 := a.keep c o h n nb m
    refine b.keep c o h1 n (fun z => ?_) m
    obtain ⟨⟨vs, k⟩, r⟩ := s c z
    rcases r with r | r
    · exact nb r
    · rw [h1] at k
      cases k
      exact r vs h
  · obtain ⟨ws, k⟩ := a.lst c vs h
    exact b.lst c ws k
theorem ExtB.sqT {K : PySem.W.Frag} (x : ExtB C B H H') (hc : ∃ xs, H C = some (.lst xs)) (hB : ∀ a, B a → ∃ vs, H a = some (.lst vs)) {a : Addr} {vs : List V} (h : SqT K H a vs) : SqT K H' a vs := by
  obtain ⟨xs, hc⟩ := hc
  have nb : ∀ o, H a = some o → (∀ ws, o ≠ .lst ws) → ¬ B a := fun o k m z => by
    obtain ⟨ws, q⟩ := hB a z
    rw [k] at q
    cases q
    exact m _ rfl
  rcases h with (h | ⟨o, h⟩) | h
  · exact .inl (.inl (x.keep _ _ h (fun e => by rw [e, hc] at h; cases h) (nb _ h fun _ e => by cases e) (fun ps e => by cases e)))
  · exact .inl (.inr ⟨o, x.keep _ _ h (fun e => by rw [e, hc] at h; cases h) (nb _ h fun _ e => by cases e) (fun ps e => by cases e)⟩)
  · exact .inr h
theorem ExtB.rp (x : ExtB C B H H') (hc : ∃ xs, H C = some (.lst xs)) (hB : ∀ a, B a → ∃ vs, H a = some (.lst vs)) (hA : ∀ a, A a → ¬ B a) {d : D} {v : V} (h : Rp g C H A d v) : Rp g C H' A d v :=
  Rp.move (fun _ _ k => x.sqT hc hB k) (fun a vs h1 h2 h3 => ⟨x.keep _ _ h1 h3 (hA a h2) (fun ps e => by cases e), h2⟩) d v h
theorem ExtB.rps (x : ExtB C B H H') (hc : ∃ xs, H C = some (.lst xs)) (hB : ∀ a, B a → ∃ vs, H a = some (.lst vs)) (hA : ∀ a, A a → ¬ B a) {d : List D} {v : List V} (h : Rps g C H A d v) : Rps g C H' A d v :=
  Rps.move (fun _ _ k => x.sqT hc hB k) (fun a vs h1 h2 h3 => ⟨x.keep _ _ h1 h3 (hA a h2) (fun ps e => by cases e), h2⟩) d v h
end

/-! ### data for == -/
section
variable {g : G} {C : Addr} {H : Hp} {A : Addr → Prop}
mutual
theorem Rp.dp : ∀ (d : D) (v : V) (p : PyData), Rp g C H A d v → d.toP = some p → Dp g.K H v p
  | .non, v, p, h, e => by cases e; cases h; exact .non
  | .bl b, v, p, h, e => by cases e; cases h; exact .bl b
  | .int i, v, p, h, e => by cases e; cases h; exact .int i
  | .str x, v, p, h, e => by cases e; cases h; exact .str x
  | .tup ds, v, p, h, e => by
    obtain ⟨a, vs, rfl, h1, h2⟩ := h
    simp only [D.toP] at e
    split at e
    · rename_i ps hp
      cases e
      exact .tup h1 (Rps.dp ds vs ps h2 hp)
    · cases e
  | .lst ds, v, p, h, e => by
    obtain ⟨a, vs, rfl, h1, h3, h4, h2⟩ := h
    simp only [D.toP] at e
    split at e
    · rename_i ps hp
      cases e
      exact .lst (SqL.of h1) (Rps.dp ds vs ps h2 hp)
    · cases e
  | .fn k, v, p, h, e => by cases e
  | .cup, v, p, h, e => by cases e
  | .exc _, v, p, h, e => by cases e
theorem Rps.dp : ∀ (ds : List D) (vs : List V) (ps : List PyData), Rps g C H A ds vs → D.toPs ds = some ps → DpAll g.K H vs ps
  | [], vs, ps, h, e => by
    cases e
    have z : vs = [] := h
    subst z
    exact .nil
  | d :: ds, vs, ps, h, e => by
    obtain ⟨v, r, rfl, h1, h2⟩ := h
    simp only [D.toPs] at e
    split at e
    · rename_i p qs e1 e2
      cases e
      exact .cons (Rp.dp d v p h1 e1) (Rps.dp ds r qs h2 e2)
    · cases e
end
theorem Rp.sc {d : D} {v w : V} (h : Rp g C H A d v) (e : d.sc = some w) : v = w ∧ flatV w = true := by
  cases d with
  | non => cases e; cases h; exact ⟨rfl, rfl⟩
  | bl b => cases e; cases h; exact ⟨rfl, rfl⟩
  | int i => cases e; cases h; exact ⟨rfl, rfl⟩
  | str x => cases e; cases h; exact ⟨rfl, rfl⟩
  | tup ds => cases e
  | lst ds => cases e
  | fn k => cases e
  | cup => cases e
  | exc _ => cases e
theorem Rps.scs : ∀ {ds : List D} {vs ws : List V}, Rps g C H A ds vs → scs ds = some ws → vs = ws ∧ ws.all flatV = true
  | [], vs, ws, h, e => by
    cases e
    exact ⟨h, rfl⟩
  | d :: ds, vs, ws, h, e => by
    obtain ⟨v, r, rfl, h1, h2⟩ := h
    simp only [Ev.scs] at e
    split at e
    · rename_i p qs e1 e2
      cases e
      obtain ⟨q1, q2⟩ := Rp.sc h1 e1
      obtain ⟨q3, q4⟩ := Rps.scs h2 e2
      rw [q1, q3]
      exact ⟨rfl, by rw [List.all_cons, q2, q4]; rfl⟩
    · cases e
theorem Rps.bls : ∀ {ds : List D} {vs : List V} {bs : List Bool}, Rps g C H A ds vs → bls ds = some bs → vs = bs.map V.bl
  | [], vs, bs, h, e => by
    cases e
    exact h
  | .bl b :: ds, vs, ws, h, e => by
    obtain ⟨v, r, rfl, h1, h2⟩ := h
    simp only [Ev.bls] at e
    split at e
    · rename_i qs e2
      cases e
      have q1 : v = .bl b := h1
      rw [q1, Rps.bls h2 e2]
      rfl
    · cases e
  | .non :: _, _, _, _, e => by cases e
  | .int _ :: _, _, _, _, e => by cases e
  | .str _ :: _, _, _, _, e => by cases e
  | .tup _ :: _, _, _, _, e => by cases e
  | .lst _ :: _, _, _, _, e => by cases e
  | .fn _ :: _, _, _, _, e => by cases e
  | .cup :: _, _, _, _, e => by cases e
  | .exc _ :: _, _, _, _, e => by cases e
theorem Rps.allI : ∀ {ds : List D} {vs : List V} {bs : List Int}, Rps g C H A ds vs → allI ds = some bs → vs = bs.map V.int
  | [], vs, bs, h, e => by
    cases e
    exact h
  | .int b :: ds, vs, ws, h, e => by
    obtain ⟨v, r, rfl, h1, h2⟩ := h
    simp only [Ev.allI] at e
    split at e
    · rename_i qs e2
      cases e
      have q1 : v = .int b := h1
      rw [q1, Rps.allI h2 e2]
      rfl
    · cases e
  | .non :: _, _, _, _, e => by cases e
  | .bl _ :: _, _, _, _, e => by cases e
  | .str _ :: _, _, _, _, e => by cases e
  | .tup _ :: _, _, _, _, e => by cases e
  | .lst _ :: _, _, _, _, e => by cases e
  | .fn _ :: _, _, _, _, e => by cases e
  | .cup :: _, _, _, _, e => by cases e
  | .exc _ :: _, _, _, _, e => by cases e
theorem Rps.stl : ∀ {ds : List D} {vs : List V} {bs : List Str}, Rps g C H A ds vs → stl ds = some bs → vs = bs.map V.str
  | [], vs, bs, h, e => by
    cases e
    exact h
  | .str b :: ds, vs, ws, h, e => by
    obtain ⟨v, r, rfl, h1, h2⟩ := h
    simp only [Ev.stl] at e
    split at e
    · rename_i qs e2
      cases e
      have q1 : v = .str b := h1
      rw [q1, Rps.stl h2 e2]
      rfl
    · cases e
  | .non :: _, _, _, _, e => by cases e
  | .bl _ :: _, _, _, _, e => by cases e
  | .int _ :: _, _, _, _, e => by cases e
  | .tup _ :: _, _, _, _, e => by cases e
  | .lst _ :: _, _, _, _, e => by cases e
  | .fn _ :: _, _, _, _, e => by cases e
  | .cup :: _, _, _, _, e => by cases e
  | .exc _ :: _, _, _, _, e => by cases e
theorem big_le : big ≤ sizeLine := by
  rw [sizeLine_eq]
  exact Nat.le_refl _
end
end Ev

/-! A lambda handed to a def, its exceptions' context known to be None. -/
namespace LamN
open PySem PySem.Spec PyProof.Rows L2 LamX
theorem takes0 {X : Cx} : L2N.Takes X (fun _ _ _ _ => False) := fun _ _ x => by
  obtain ⟨_, _, _, _, _, _, _, _, _, _, _, _, _, _, _, _, z⟩ := x
  exact z.elim
/-- the context of the lambda's body, entered at s from the frames outer -/
def lamCx (X : Cx) (A : Around) (outer : List Env) (s : Shared) (H : Hp) (E : XK) (scope : Scope) (f c' : Addr) : Cx where
  prog := X.prog
  w := X.w
  K := X.K
  mg := X.mg
  base := X.base
  A := A.deeper (lamEnv X scope s.heap.objs.size f c')
  N := X.N
  s_0 := s
  H_0 := H
  env := lamEnv X scope s.heap.objs.size f c'
  outer := outer
  stack := lamEnv X scope s.heap.objs.size f c' :: outer
  ex := []
  fn := fun _ => false
  calm := true
  pn := []
  xe := fun e s' => wpAny (model X.prog X.w) (A.deeper (lamEnv X scope s.heap.objs.size f c')) (leaving (lamEnv X scope s.heap.objs.size f c') e) (fun _ s'' => L2N.CX X.prog X.w outer H s E e s'') (fun e' s'' => L2N.CX X.prog X.w outer H s E e' s'') s'
section
variable {X : Cx} {pins : List (Addr × Obj)} {σ : L2.St} {H HZ : Hp} {s s1 : Shared}
theorem lam_start2 {A : Around} {outer : List Env} {E : XK} {scope : Scope} {f c' : Addr} {h₁ : Heap} {tk : Nat} (I : Inv X pins σ H s) (L : LamS X.env.scope scope) (e0 : Env0 X.prog X.w X.K X.mg X.base A outer s1 HZ) (hd : A.handled = none)
    (un : Un (frs X.stack) [] H HZ s.heap s1.heap) (hns : h₁.Ns s1.heap.objs.size fun y => ([] : List (Str × Value)).reverse.lookup y) (kp : ∀ b o, s1.heap.get? b = some o → h₁.get? b = some o) :
    Inv (lamCx X A outer s1 HZ E scope f c') [] σ HZ { s1 with heap := h₁, toks := tk } := by
  have hfree := L.has I.ok
  have cm : ∀ {y c}, (cloFrom X.env.cells scope.names []).lookup y = some c → X.env.cells.lookup y = some c := fun {y c} e => by
    rcases cloFrom_mem (PySem.mem_of_lookup e) with hm | ⟨h1, h2⟩
    · cases hm
    · obtain ⟨c1, hc⟩ := hfree _ h1 rfl
      have hc : X.env.cells.lookup y = some c1 := hc
      have e2 : c = c1 := by
        rw [h2, hc] <;> rfl
      rw [e2]
      exact hc
  have look : ∀ {y}, scope.names.lookup y = some .free → ∃ c, (cloFrom X.env.cells scope.names []).lookup y = some c := fun {y} hl => by
    have hy : (y, NameKind.free) ∈ scope.names := PySem.mem_of_lookup hl
    exact mem_lookup (cloFrom_has (cells := X.env.cells) (acc := []) hy)
  have cellK : ∀ {c : Addr} {v : Option Value}, H c = none → s.heap.IsCell c v → h₁.IsCell c v := fun {c v} n ⟨o, ho, hd⟩ => by
    obtain ⟨sl, q⟩ := un.any ho n (by simp)
    exact ⟨_, kp _ _ q, hd⟩
  have noA : ∀ b : Addr, b ∉ (lamCx X A outer s1 HZ E scope f c').ex := fun b z => absurd (show b ∈ ([] : List Addr) from z) (by simp)
  refine ⟨⟨e0.mod, L.kind, rfl, rfl, Nat.le_refl _, fun y z c e1 e2 => I.ok.inj y z c (cm e1) (cm e2), fun y hy => ?_, fun y c z _ => ?_, fun _ => hd, Around.frames_deeper e0.frames, .inr ⟨rfl, rfl⟩, fun b z => absurd z (noA b), e0.bs, e0.bsz, fun b _ _ => noA b,
      fun b z => absurd z (noA b), e0.funs, e0.frf⟩,
    rfl, e0.bare, Un.kept kp, ⟨_, hns, fun i y v e1 e2 e3 => ?_⟩, fun y c e => ?_, e0.hok.fresh (Nat.le_refl _), fun y c e => ?_, fun q hq => absurd (show q ∈ ([] : List (Addr × Obj)) ++ [] from hq) (by simp), e0.hok.kept kp, I.len⟩
  · have hy : scope.names.lookup y = some .cell ∨ scope.names.lookup y = some .free := hy
    rcases hy with hy | hy
    · exact absurd rfl (L.own _ (PySem.mem_of_lookup hy)).2
    · exact look hy
  · have z : false = true := z
    cases z
  · have e3 : Vis scope y := e3
    rcases e3 with k | k | k
    · exact absurd rfl (L.own _ (PySem.mem_of_lookup k)).1
    · exact absurd rfl (L.own _ (PySem.mem_of_lookup k)).2
    · obtain ⟨m, hn, hl⟩ := I.loc
      have hvis : Vis X.env.scope y := (L.free _ (PySem.mem_of_lookup k) rfl).elim (fun k => .inr (.inl k)) (fun k => .inr (.inr k))
      obtain ⟨w', r, q⟩ := hl i y v e1 e2 hvis
      obtain ⟨c2, h2⟩ := look k
      refine ⟨w', r, .inr ⟨.inr k, c2, h2, ?_⟩⟩
      have c1 := cm h2
      rcases q with ⟨k', _⟩ | ⟨_, c3, e', z⟩
      · have k' : X.env.scope.names.lookup y = some .local := k'
        rcases L.free _ (PySem.mem_of_lookup k) rfl with k2 | k2 <;> rw [show X.env.scope.names.lookup y = _ from k2] at k' <;> cases k'
      · rw [c1] at e'
        cases e'
        exact cellK (I.freeC y _ c1) z
  · obtain ⟨w', z⟩ := I.cell y c (cm e)
    exact ⟨w', cellK (I.freeC y c (cm e)) z⟩
  · obtain ⟨v, o, ho, hd⟩ := I.cell y c (cm e)
    exact un.free c o ho (I.freeC y c (cm e)) (by simp)
/-- x(), in the def that got the lambda: Z is that def's context, entered at s -/
theorem pe_act {CXg : CXT} {Eg : XK} {Ng : List Str} {qg : Str} {sg : Scope} {g f c' : Addr} {cdg pm ctv : Value} {params : Arguments} {body : Expr} {scope : Scope} {k i : Nat} {a : Str} {pn : List (Addr × Obj)} {xe : Value → Shared → Prop} {W : WX} {E : XK} {tb : TE} {p1 p2 : Pos}
    (I : Inv X pins σ H s) (L : LamS X.env.scope scope) (hf : s.heap.get? f = some (PySem.W.kla_obj "<lambda>" (X.env.qual ++ "<lambda>") params body scope (cloFrom X.env.cells scope.names []) pm c' ctv)) (hfn : H f = none) (hfr : f ∉ frs X.stack)
    (hbind : bindArgs (PySem.W.kla_fn "<lambda>" (X.env.qual ++ "<lambda>") params body scope (cloFrom X.env.cells scope.names []) pm (.ref c') ctv) ⟨[], []⟩ = pure [])
    (tk : L2N.Takes ((cxOf CXg X.prog X.w X.K X.mg X.base Ng qg sg g cdg X.A X.stack s H Eg).tr pn xe) W) (hW : ∀ cls d (σ' : L2.St) H', σ'.length = Ng.length → E cls d H' → W cls d σ' H') (hr : Room (k + 1) (X.A.deeper (envOfC qg sg s.heap.objs.size g cdg)))
    (hbody : ∀ (A : Around) (outer : List Env) (s : Shared) (H : Hp), Room k (A.deeper (lamEnv X scope s.heap.objs.size f c')) → PE (lamCx X A outer s H E scope f c') body tb)
    (hN : Ng[i]? = some a) (hv : Vis sg a) (hd : (a == ("__debug__" : Str)) = false := by decide) (hcd : (a == ("__classdict__" : Str)) = false := by decide) :
    PE ((cxOf CXg X.prog X.w X.K X.mg X.base Ng qg sg g cdg X.A X.stack s H Eg).tr pn xe) (.Call (.Name a p1) [] [] p2)
      (fun σZ HZ Q => σZ[i]? = some (some (.ref f)) ∧ HZ c' = some (CodeO c' (X.env.qual ++ "<lambda>")) ∧ tb σ HZ Q) := by
  refine ⟨fun pinsZ sZ σZ HZ Q IZ h => ?_⟩
  obtain ⟨hs, hc, ht⟩ := h
  refine wpAny_Call_Name_kw (thn ((pe_var (pos := p1) (i := i) hN hv hd hcd).run pinsZ sZ σZ HZ (fun v H1 => v = .ref f ∧ H1 = HZ) IZ ⟨.ref f, hs, rfl, rfl⟩) fun u s1 ⟨v, H1, I1, r1, q1⟩ => ?_)
  obtain ⟨ev, eH⟩ := q1
  subst ev
  rw [eH] at I1
  obtain rfl : u = Value.ref f := r1
  have of1 : s1.heap.get? f = some (PySem.W.kla_obj "<lambda>" (X.env.qual ++ "<lambda>") params body scope (cloFrom X.env.cells scope.names []) pm c' ctv) := I1.base.keep f _ hf hfn hfr (fun z => nomatch (show f ∈ ([] : List Addr) from z))
  refine PySem.W.callWith_F0 ⟨_, _, _, _, of1⟩ ?_
  have un : Un (frs X.stack) [] H HZ s.heap s1.heap := I1.base
  obtain ⟨⟨oc, vs, t, hoc, hdc, hvc⟩, _, _⟩ := I1.hok c' _ hc
  have rc : codeAny (model X.prog X.w) (X.A.deeper (envOfC qg sg s.heap.objs.size g cdg)) (.call (.ref f) ⟨[], []⟩) (CR (L2N.CX X.prog X.w) (envOfC qg sg s.heap.objs.size g cdg :: X.stack) X.prog X.w HZ s1 Q E) s1 := by
    refine PySem.W.kla_callFunE hr.depth of1 rfl L.co L.gen rfl ⟨c', oc, vs, t, rfl, hoc, hdc, hvc⟩ ?_
    rw [hbind]
    refine wpAny_pure (wpAny_newFunctionEnv (fun y hy => (L.own y hy).2) (fun y hy => absurd hy (by simp)) (fun h₁ hns hsb => ⟨I1.nolimit.fresh _ hsb, ?_⟩) L.kind)
    show codeAny _ _ (.expr body (lamEnv X scope s1.heap.objs.size f c')) _ _
    have kp : ∀ b o, s1.heap.get? b = some o → h₁.get? b = some o := fun b o e => hsb.extBut b o (Nat.ne_of_lt (Heap.lt_size e)) (Heap.get?_push_of_some _ e)
    have J : Inv (lamCx X (X.A.deeper (envOfC qg sg s.heap.objs.size g cdg)) (envOfC qg sg s.heap.objs.size g cdg :: X.stack) s1 HZ E scope f c') [] σ HZ { s1 with heap := h₁, toks := s1.toks + ([] : List (Str × Value)).length } :=
      lam_start2 I L I1.env0 hr.hd un hns kp
    refine PySem.W.kla_codeExpr (wpAny_mono ((hbody _ _ s1 HZ (hr.deeper _)).run [] _ _ HZ Q J ht) (fun v s' hq => ?_) fun e s' hq => hq)
    obtain ⟨w', H', J', rv, q⟩ := hq
    exact ⟨w', H', J'.os, J'.bare, J'.base, J'.hok, rv, q⟩
  have hx : Passes (L2N.CX X.prog X.w) ((cxOf CXg X.prog X.w X.K X.mg X.base Ng qg sg g cdg X.A X.stack s H Eg).tr pn xe) E := fun pins σ H s e s' I c => tk e s' (L2N.XE.of_call I (fun cls d H' h => hW cls d σ H' I.len h) c)
  refine wpAny_call (codeAny_mono rc fun r s' hq => ?_)
  cases r with
  | error e => exact hx pinsZ σZ HZ s1 e s' I1 hq
  | ok fl =>
    cases fl with
    | ret u => exact I1.after hq
    | next => exact False.elim hq
    | brk => exact False.elim hq
    | cont => exact False.elim hq
end
/-- the def that calls what it got: a calls it; TT: what it makes of the lambda's reading -/
def GivesTo (X : Cx) (Ng : List Str) (x : Str) (sg : Scope) (g : Addr) (cdg : Value) (bg : List Stmt) (a : Str) (q : Str) (TT : (XK → Hp → VK → Prop) → Hp → VK → Prop) : Prop :=
  ∀ (f c' : Addr) (s : Shared) (H : Hp) (Q : VK) (tl : XK → Hp → VK → Prop),
    (∀ (W : WX) (pn : List (Addr × Obj)) (xe : Value → Shared → Prop) (E : XK) (p1 p2 : Pos), L2N.Takes ((cxOf C8.CX0 X.prog X.w X.K X.mg X.base Ng x sg g cdg X.A X.stack s H C8.E0).tr pn xe) W → (∀ cls d (σ' : L2.St) H', σ'.length = Ng.length → E cls d H' → W cls d σ' H') →
      PE ((cxOf C8.CX0 X.prog X.w X.K X.mg X.base Ng x sg g cdg X.A X.stack s H C8.E0).tr pn xe) (.Call (.Name a p1) [] [] p2) (fun σZ HZ Q => σZ[0]? = some (some (.ref f)) ∧ HZ c' = some (CodeO c' q) ∧ tl E HZ Q)) →
    H c' = some (CodeO c' q) → TT tl H Q →
    ∃ t, PSs (cxOf C8.CX0 X.prog X.w X.K X.mg X.base Ng x sg g cdg X.A X.stack s H C8.E0).nox bg t ∧ t { nx := fun _ H' => Q .non H', rt := Q } (L2.start Ng [.ref f]) H
section
variable {X : Cx}
/-- x(lambda: body) -/
theorem pe_lamcall {T : List (Addr × Str)} {TT : (XK → Hp → VK → Prop) → Hp → VK → Prop} {x a : Str} {g c P : Addr} {k : Nat} {pg : Arguments} {bg : List Stmt} {sg : Scope} {dV kV doc pm cdv ct oc : Value} {an od : Option Addr} {osl : Array (Option Value)} {Ng : List Str}
    {params : Arguments} {body : Expr} {scope : Scope} {t : XK → TE} {p lpos pos : Pos} (hg : Gl X x) (hm : X.mg x = some (.ref g)) (hk : PySem.W.keepIn X.K (.ref g) = true)
    (lk : X.K.lookup g = some ⟨oc, od, .func (PySem.W.fnOf x x pg bg sg dV kV doc pm an cdv ct), osl⟩) (hcg : PySem.W.codeIn X.K cdv x = true) (hb : L2.Binds X.K (PySem.W.fnOf x x pg bg sg dV kV doc pm an cdv ct) [a] []) (Sg : FnScope Ng [a] sg) (hNg : Ng[0]? = some a) (hva : Vis sg a)
    (hG : GivesTo X Ng x sg g cdv bg a (X.env.qual ++ "<lambda>") TT)
    (TB : TabB X.base X.mg c P) (hcode : X.env.code = .ref c) (hmT : (P, X.env.qual ++ "<lambda>") ∈ T) (hu : ∀ p ∈ T, p.1 = P → p.2 = X.env.qual ++ "<lambda>") (hr : Room (k + 2) X.A) (L : LamS X.env.scope scope) (hdef : defaultsOf params X.env = ([], []))
    (hbind : ∀ (q : Str) (cl : List (Str × Addr)) (pm cv ctv : Value), bindArgs (PySem.W.kla_fn "<lambda>" q params body scope cl pm cv ctv) ⟨[], []⟩ = pure [])
    (hbody : ∀ (A : Around) (outer : List Env) (s : Shared) (H : Hp) (E : XK) (f c' : Addr), Room k (A.deeper (lamEnv X scope s.heap.objs.size f c')) → PE (lamCx X A outer s H E scope f c') body (t E))
    (hdb : (x == ("__debug__" : Str)) = false := by decide) (hd : (a == ("__debug__" : Str)) = false := by decide) (hcd : (a == ("__classdict__" : Str)) = false := by decide) :
    PE X (.Call (.Name x p) [.Lambda params body scope lpos] [] pos) (tLam T TT t) := by
  refine ⟨fun pins s σ H Q I h => ?_⟩
  obtain ⟨hT, h⟩ := h
  refine wpAny_Call_Name_kw (ld_glob I hg hm ?_ hdb)
  refine PySem.W.callWith_K (h₀ := X.base) I.ok.mod.kin hk ?_ (by rfl) (by rfl)
  show wpAny _ _ (spliced ((false, eval (.Lambda params body scope lpos) X.env) :: backTo pos (starEach [] X.env))) _ _ s
  refine Calls.spliced_cons (lam_make2 I TB hcode hmT hu hT hdef (L.has I.ok) fun f c' pm' ctv H1 s' I1 eN T1 hf hfn hfr hco => ?_)
  refine Calls.spliced_nil ⟨I1.kIn, ?_⟩
  have rc : codeAny (model X.prog X.w) X.A (.call (.ref g) ⟨[.ref f], []⟩) (CR C8.CX0 X.stack X.prog X.w H1 s' Q C8.E0) s' := by
    refine run_ofS (N := Ng) (ps := [a]) (us := [.ref f]) (vs := [.ref f]) lk hcg Sg hr I1.env0 (hb s' [.ref f] I1.kIn rfl) (.cons rfl .nil) rfl fun hr' => ?_
    obtain ⟨t', ht', hq'⟩ := hG f c' s' H1 Q (fun E H' Q' => t E σ H' Q') (fun W pn xe E p1 p2 tk hW => pe_act (i := 0) I1 L hf hfn hfr (hbind _ _ _ _ _) tk hW hr' (fun A outer s H hr2 => hbody A outer s H E f c' hr2) hNg hva hd hcd) hco (h H1 eN T1)
    exact ⟨t', ht'.nox, hq'⟩
  refine wpAny_call (codeAny_mono rc fun r s2 hq => ?_)
  cases r with
  | error e => exact (show False from hq).elim
  | ok fl =>
    cases fl with
    | ret u => exact I1.after hq
    | next => exact False.elim hq
    | brk => exact False.elim hq
    | cont => exact False.elim hq
end
end LamN

/-! While an exception is handled: iterators' ends, unpacking. -/
namespace EvHot
open PySem PySem.Spec PyProof.Rows HotX
section
variable {prog : Program} {w : World} {A : Around} {E : Value → Shared → Prop} {s : Shared}
theorem list_end_hot {it t x1 : Addr} {i : Nat} {items} {Q : Option Value → Shared → Prop} (hot : HotAt A x1 s.heap) (hne : x1 ≠ it)
    (hit : s.heap.IsListIter it t i) (ht : s.heap.IsList t items) (hx : items[i]? = none)
    (hQ : ∀ h', Heap.ExtBut it s.heap h' → Q none { s with heap := h' }) : wpAny (model prog w) A (pyNext (.ref it)) Q E s := by
  obtain ⟨o, ho, hc, hd⟩ := id hit
  obtain ⟨ol, hol, _, nl, hdl⟩ := ht
  obtain ⟨hh, o1, vs1, h1, d1, c1⟩ := hot
  unfold pyNext
  refine wpAny_bind (wpAny_attempt (wpAny_callSpecial?_slot (name := Str.ofString "__next__") hit.typeIs slot_listiter_next
    (wpAny_call_entry slot_listiter_next hit.typeIs entry_listiter_next ?_ (args_listiter_next _))))
  show wpAny _ _ (field (.ref it) 0 >>= _) _ _ s
  refine wpAny_bind (wpAny_field ho hd (x := .ref t) rfl ?_)
  show wpAny _ _ (if (Value.ref t == Value.none) = true then _ else _) _ _ s
  rw [if_neg (show ¬ ((Value.ref t == Value.none) = true) from Bool.false_ne_true)]
  show wpAny _ _ (field (.ref it) 1 >>= _) _ _ s
  refine wpAny_bind (wpAny_field ho hd (x := .int i 0) rfl ?_)
  show wpAny _ _ (seqItems? (.ref t) >>= _) _ _ s
  refine wpAny_bind (wpAny_seqItems hol hdl ?_)
  simp only [Int.toNat_natCast, hx]
  refine wpAny_bind (wpAny_rule (wpAny_bind (wpAny_setField ho hd (by simp) ?_)))
  show wpAny _ _ (newExc (.type "StopIteration") [] >>= _) _ _ _
  refine wpAny_bind ?_
  simp only [newExc, newTuple]
  refine wpAny_bind (wpAny_newObj_type ?_ (by size_fits))
  refine wpAny_bind (m := firstArgMember _ _) (wpAny_of_eq (a := Value.none) (by first | rfl | (simp only [firstArgMember]; rfl)) ?_)
  refine wpAny_newObj_type ?_ (by size_fits)
  have h2 : (s.heap.update it (Obj.mapFields (·.setIfInBounds 0 Value.none))).get? x1 = some o1 := by
    rw [Heap.get?_update_other _ _ hne.symm]
    exact h1
  refine raiseNew_hot ⟨hh, o1, vs1, Heap.get?_push_of_some _ (Heap.get?_push_of_some _ h2), d1, c1⟩ (Nat.ne_of_lt (Heap.lt_size (Heap.get?_push_of_some _ h2))) (Heap.get?_push_size _ rfl) rfl (by first | (simp; done) | (simp; omega) | (simp only [Array.size_append]; simp; omega)) ?_
  refine wpAny_bind (wpAny_isInstance (T := "StopIteration") (b := true) ⟨_, Heap.get?_update_self _ (Heap.get?_push_size _ rfl) rfl, rfl⟩ isSubtype_stop ?_)
  refine wpAny_pure (hQ _ fun b o hb e => ?_)
  have e2 := (Heap.SameBut.update s.heap it (Obj.mapFields (·.setIfInBounds 0 Value.none))).extBut b o hb e
  exact (Heap.get?_update_other _ _ (Nat.ne_of_gt (Heap.lt_size (Heap.get?_push_of_some _ e2)))).trans (Heap.get?_push_of_some _ (Heap.get?_push_of_some _ e2))
theorem tuple_end_hot {it t x1 : Addr} {i : Nat} {items} {Q : Option Value → Shared → Prop} (hot : HotAt A x1 s.heap) (hne : x1 ≠ it)
    (hit : s.heap.IsTupleIter it t i) (ht : s.heap.IsTuple t items) (hx : items[i]? = none)
    (hQ : ∀ h', Heap.ExtBut it s.heap h' → Q none { s with heap := h' }) : wpAny (model prog w) A (pyNext (.ref it)) Q E s := by
  obtain ⟨o, ho, hc, hd⟩ := id hit
  obtain ⟨ol, hol, _, nl, hdl⟩ := ht
  obtain ⟨hh, o1, vs1, h1, d1, c1⟩ := hot
  unfold pyNext
  refine wpAny_bind (wpAny_attempt (wpAny_callSpecial?_slot (name := Str.ofString "__next__") hit.typeIs F.slot_tuple_iterator_next
    (wpAny_call_entry F.slot_tuple_iterator_next hit.typeIs F.entry_tuple_iterator_next ?_ (F.args_tuple_iterator_next_1 _))))
  show wpAny _ _ (field (.ref it) 0 >>= _) _ _ s
  refine wpAny_bind (wpAny_field ho hd (x := .ref t) rfl ?_)
  show wpAny _ _ (if (Value.ref t == Value.none) = true then _ else _) _ _ s
  rw [if_neg (show ¬ ((Value.ref t == Value.none) = true) from Bool.false_ne_true)]
  show wpAny _ _ (field (.ref it) 1 >>= _) _ _ s
  refine wpAny_bind (wpAny_field ho hd (x := .int i 0) rfl ?_)
  show wpAny _ _ (seqItems? (.ref t) >>= _) _ _ s
  refine wpAny_bind (wpAny_seqItems hol hdl ?_)
  simp only [Int.toNat_natCast, hx]
  refine wpAny_bind (wpAny_rule (wpAny_bind (wpAny_setField ho hd (by simp) ?_)))
  show wpAny _ _ (newExc (.type "StopIteration") [] >>= _) _ _ _
  refine wpAny_bind ?_
  simp only [newExc, newTuple]
  refine wpAny_bind (wpAny_newObj_type ?_ (by size_fits))
  refine wpAny_bind (m := firstArgMember _ _) (wpAny_of_eq (a := Value.none) (by first | rfl | (simp only [firstArgMember]; rfl)) ?_)
  refine wpAny_newObj_type ?_ (by size_fits)
  have h2 : (s.heap.update it (Obj.mapFields (·.setIfInBounds 0 Value.none))).get? x1 = some o1 := by
    rw [Heap.get?_update_other _ _ hne.symm]
    exact h1
  refine raiseNew_hot ⟨hh, o1, vs1, Heap.get?_push_of_some _ (Heap.get?_push_of_some _ h2), d1, c1⟩ (Nat.ne_of_lt (Heap.lt_size (Heap.get?_push_of_some _ h2))) (Heap.get?_push_size _ rfl) rfl (by first | (simp; done) | (simp; omega) | (simp only [Array.size_append]; simp; omega)) ?_
  refine wpAny_bind (wpAny_isInstance (T := "StopIteration") (b := true) ⟨_, Heap.get?_update_self _ (Heap.get?_push_size _ rfl) rfl, rfl⟩ isSubtype_stop ?_)
  refine wpAny_pure (hQ _ fun b o hb e => ?_)
  have e2 := (Heap.SameBut.update s.heap it (Obj.mapFields (·.setIfInBounds 0 Value.none))).extBut b o hb e
  exact (Heap.get?_update_other _ _ (Nat.ne_of_gt (Heap.lt_size (Heap.get?_push_of_some _ e2)))).trans (Heap.get?_push_of_some _ (Heap.get?_push_of_some _ e2))
theorem tup_end_hot {it t x1 : Addr} {i : Nat} {items} {Q : Option Value → Shared → Prop} (hot : HotAt A x1 s.heap) (hne : x1 ≠ it)
    (hit : IsTupIter s.heap it t i) (ht : IsTup s.heap t items) (hx : items[i]? = none)
    (hQ : ∀ h', Heap.ExtBut it s.heap h' → Q none { s with heap := h' }) : wpAny (model prog w) A (pyNext (.ref it)) Q E s := by
  obtain ⟨o, ho, hc, hd⟩ := id hit
  obtain ⟨ol, hol, _, nl, hdl⟩ := ht
  obtain ⟨hh, o1, vs1, h1, d1, c1⟩ := hot
  unfold pyNext
  refine wpAny_bind (wpAny_attempt (wpAny_callSpecial?_slot (name := Str.ofString "__next__") hit.typeIs slot_tupleiter_next
    (wpAny_call_entry slot_tupleiter_next hit.typeIs entry_tupleiter_next ?_ (args_tupleiter_next _))))
  show wpAny _ _ (field (.ref it) 0 >>= _) _ _ s
  refine wpAny_bind (wpAny_field ho hd (x := .ref t) rfl ?_)
  show wpAny _ _ (if (Value.ref t == Value.none) = true then _ else _) _ _ s
  rw [if_neg (show ¬ ((Value.ref t == Value.none) = true) from Bool.false_ne_true)]
  show wpAny _ _ (field (.ref it) 1 >>= _) _ _ s
  refine wpAny_bind (wpAny_field ho hd (x := .int i 0) rfl ?_)
  show wpAny _ _ (seqItems? (.ref t) >>= _) _ _ s
  refine wpAny_bind (wpAny_seqItems hol hdl ?_)
  simp only [Int.toNat_natCast, hx]
  refine wpAny_bind (wpAny_rule (wpAny_bind (wpAny_setField ho hd (by simp) ?_)))
  show wpAny _ _ (newExc (.type "StopIteration") [] >>= _) _ _ _
  refine wpAny_bind ?_
  simp only [newExc, newTuple]
  refine wpAny_bind (wpAny_newObj_type ?_ (by size_fits))
  refine wpAny_bind (m := firstArgMember _ _) (wpAny_of_eq (a := Value.none) (by first | rfl | (simp only [firstArgMember]; rfl)) ?_)
  refine wpAny_newObj_type ?_ (by size_fits)
  have h2 : (s.heap.update it (Obj.mapFields (·.setIfInBounds 0 Value.none))).get? x1 = some o1 := by
    rw [Heap.get?_update_other _ _ hne.symm]
    exact h1
  refine raiseNew_hot ⟨hh, o1, vs1, Heap.get?_push_of_some _ (Heap.get?_push_of_some _ h2), d1, c1⟩ (Nat.ne_of_lt (Heap.lt_size (Heap.get?_push_of_some _ h2))) (Heap.get?_push_size _ rfl) rfl (by first | (simp; done) | (simp; omega) | (simp only [Array.size_append]; simp; omega)) ?_
  refine wpAny_bind (wpAny_isInstance (T := "StopIteration") (b := true) ⟨_, Heap.get?_update_self _ (Heap.get?_push_size _ rfl) rfl, rfl⟩ isSubtype_stop ?_)
  refine wpAny_pure (hQ _ fun b o hb e => ?_)
  have e2 := (Heap.SameBut.update s.heap it (Obj.mapFields (·.setIfInBounds 0 Value.none))).extBut b o hb e
  exact (Heap.get?_update_other _ _ (Nat.ne_of_gt (Heap.lt_size (Heap.get?_push_of_some _ e2)))).trans (Heap.get?_push_of_some _ (Heap.get?_push_of_some _ e2))
theorem unpackItems_hot {t x1 : Addr} {items : Array Value} {Q : List Value → Shared → Prop} (hot : HotAt A x1 s.heap) (ht : IsTup s.heap t items)
    (hQ : ∀ h', Heap.ExtBut s.heap.objs.size s.heap h' → Q items.toList { s with heap := h' }) : wpAny (model prog w) A (unpackItems (.ref t) items.size none) Q E s := by
  have hlt : t ≠ s.heap.objs.size := by obtain ⟨o, ho, _⟩ := ht; exact Nat.ne_of_lt (Heap.lt_size ho)
  obtain ⟨hh, o1, vs1, h1, d1, c1⟩ := hot
  have hx1 : x1 ≠ s.heap.objs.size := Nat.ne_of_lt (Heap.lt_size h1)
  unfold unpackItems
  refine wpAny_bind ?_
  · unfold notIterableAtAll
    refine wpAny_bind (wpAny_specialOf ht.typeIs slot_tuple_iter.lookup ?_)
    refine wpAny_pure ?_
    simp only [Bool.false_eq_true, if_false]
    refine wpAny_bind (wpAny_holding (iter_tuple ht ?_))
    refine wpAny_bind (wpAny_holding (draw_tuple hlt items.size 0 _ _ ⟨_, Heap.get?_push_size _ rfl, rfl, rfl⟩ (ht.push _) (by omega) fun h₁ hit₁ hs₁ => ?_))
    have hall : List.take items.size (List.drop 0 items.toList) = items.toList := by
      rw [List.drop_zero]; exact List.take_of_length_le (by simp)
    rw [hall]
    rw [if_neg (by simp)]
    have ht₁ : IsTup h₁ t items := (ht.push _).extBut hs₁.extBut hlt
    refine wpAny_bind (wpAny_holding (tup_end_hot (x1 := x1) ⟨hh, o1, vs1, hs₁.extBut _ _ hx1 (Heap.get?_push_of_some _ h1), d1, c1⟩ hx1 hit₁ ht₁ (by simp) fun h₂ he₂ => ?_))
    simp only [Option.isSome_none, Bool.false_eq_true, if_false]
    refine wpAny_pure (hQ h₂ fun b o hb e => he₂ b o hb (hs₁.extBut b o hb (Heap.get?_push_of_some _ e)))
theorem assign_Tuple_hot {env : Env} {elts : List Expr} {k} {pos : Pos} {t x1 : Addr} {items : Array Value} {Q : Unit → Shared → Prop} (hot : HotAt A x1 s.heap) (ht : IsTup s.heap t items)
    (hn : (assignEach elts env).length = items.size) (hstar : (assignEach elts env).findIdx? (·.1) = none)
    (h : ∀ h', Heap.ExtBut s.heap.objs.size s.heap h' → wpAny (model prog w) A (assignInOrder ((assignEach elts env).map (·.2)) items.toList) Q E { s with heap := h' }) :
    wpAny (model prog w) A (assign (.Tuple elts k pos) env (.ref t)) Q E s := by
  rw [assign_Tuple]
  refine wpAny_bind (wpAny_standAt ?_)
  unfold unpack
  rw [hn, hstar]
  exact wpAny_bind (wpAny_holding (unpackItems_hot hot ht h))
end
end EvHot

/-! While an exception is handled: comprehensions over lists and tuples, targets. -/
namespace EvHot
open PySem PySem.Spec PyProof.Rows HotX L2 L2H
abbrev St := L2.St
theorem hot_at {X : Cx} {pins : List (Addr × Obj)} {σ : St} {H : Hp} {s : Shared} (c : HotC X) (I : Inv X pins σ H s) : ∃ x1, HotAt X.A x1 s.heap ∧ ∀ b, FpOk X pins H b → x1 ≠ b := by
  obtain ⟨p, ⟨hh, v1, e1, c1⟩, hp⟩ := c
  exact ⟨p.1, ⟨hh, p.2, v1, (I.pin p (List.mem_append_left _ hp)).1, e1, c1⟩, fun b f => f.2.2.2.2.2 p (List.mem_append_left _ hp)⟩
theorem turn_listH {P : Program} {w : World} {K : PySem.W.Frag} {tg : Expr} (a it : Addr) : TurnH P w K tg (Itl K a) [it] it (fun i h => h.IsListIter it a i) where
  mem := by simp
  obj := fun i h st b hb => by
    have e : b = it := by simpa using hb
    subst e
    obtain ⟨o, e, c, d⟩ := st
    exact ⟨o, e, fun v z => by rw [d] at z; cases z⟩
  keep := fun i h h' st k => st.at fun o e => k it (by simp) o e
  item := by
    intro X hP hw hK hc i pins s σ H E I hf st hg
    subst hP hw hK
    obtain ⟨xs, x, hq, hx⟩ := hg
    obtain ⟨its, rv, p, hz⟩ := I.list hq
    obtain ⟨u, hu, ru⟩ := rv.get hx
    obtain ⟨f0, f1, f2, f3, f4, f5⟩ := hf it (by simp)
    refine wpAny_pyNext_list_item st p.isList (x := u) (by simpa using hu) fun h' st' sb => ?_
    have I1 : Inv X pins σ H { s with heap := h' } := I.turned (t' := s.toks) (fun b o hb e => (sb.2 b hb).trans e) f0 f1 f3 f4 f5
    obtain ⟨o, e, c, d⟩ := id st'
    exact ⟨u, rfl, go_of (s := { s with heap := h' }) e c d (by decide) ⟨x, H, I1, ru, ⟨rfl, fun ys hy => by rw [I.list_inj hy hq]; exact hx⟩, st', fun b hb => (hf b hb).1⟩⟩
  done := by
    intro X hP hw hK hc i pins s σ H E I hf st hg
    subst hP hw hK
    obtain ⟨xs, hq, hx⟩ := hg
    obtain ⟨its, rv, p, hz⟩ := I.list hq
    obtain ⟨x1, hot, hn⟩ := hot_at hc I
    have hne := hn it (hf it (by simp))
    obtain ⟨f0, f1, f2, f3, f4, f5⟩ := hf it (by simp)
    have hl := rv.length
    exact list_end_hot hot hne st p.isList (by simp; omega) fun h' eb => ⟨rfl, I.turned (t' := s.toks) (fun b o hb e => eb b o hb e) f0 f1 f3 f4 f5⟩
  self := fun _ _ _ _ _ st h => wpAny_pyIter_listiter st h
theorem turn_tupleH {P : Program} {w : World} {K : PySem.W.Frag} {tg : Expr} (a it : Addr) : TurnH P w K tg (Itt K a) [it] it (fun i h => h.IsTupleIter it a i) where
  mem := by simp
  obj := fun i h st b hb => by
    have e : b = it := by simpa using hb
    subst e
    obtain ⟨o, e, c, d⟩ := st
    exact ⟨o, e, fun v z => by rw [d] at z; cases z⟩
  keep := fun i h h' st k => st.at fun o e => k it (by simp) o e
  item := by
    intro X hP hw hK hc i pins s σ H E I hf st hg
    subst hP hw hK
    obtain ⟨xs, x, hq, hx⟩ := hg
    obtain ⟨its, rv, p, hz⟩ := I.tuple hq
    obtain ⟨u, hu, ru⟩ := rv.get hx
    obtain ⟨f0, f1, f2, f3, f4, f5⟩ := hf it (by simp)
    refine wpAny_pyNext_tuple_item st (show s.heap.IsTuple a its.toArray from p) (x := u) (by simpa using hu) fun h' st' sb => ?_
    have I1 : Inv X pins σ H { s with heap := h' } := I.turned (t' := s.toks) (fun b o hb e => (sb.2 b hb).trans e) f0 f1 f3 f4 f5
    obtain ⟨o, e, c, d⟩ := id st'
    exact ⟨u, rfl, go_of (s := { s with heap := h' }) e c d (by decide) ⟨x, H, I1, ru, ⟨rfl, fun ys hy => by rw [I.tuple_inj hy hq]; exact hx⟩, st', fun b hb => (hf b hb).1⟩⟩
  done := by
    intro X hP hw hK hc i pins s σ H E I hf st hg
    subst hP hw hK
    obtain ⟨xs, hq, hx⟩ := hg
    obtain ⟨its, rv, p, hz⟩ := I.tuple hq
    obtain ⟨x1, hot, hn⟩ := hot_at hc I
    have hne := hn it (hf it (by simp))
    obtain ⟨f0, f1, f2, f3, f4, f5⟩ := hf it (by simp)
    have hl := rv.length
    exact tuple_end_hot hot hne st (show s.heap.IsTuple a its.toArray from p) (by simp; omega) fun h' eb => ⟨rfl, I.turned (t' := s.toks) (fun b o hb e => eb b o hb e) f0 f1 f3 f4 f5⟩
  self := fun _ _ _ _ _ st h => wpAny_pyIter_tupleiter st h
theorem pi_seqH {X : Cx} {tg l : Expr} {tl : TE} (hl : PE X l tl) : PIH X tg l (fun σ H R => tl σ H fun x H1 => (∃ a, x = .ref a ∧ (∃ xs, SqL X.K H1 a xs) ∧ R (Itl X.K a) H1) ∨ (∃ a, x = .ref a ∧ (∃ xs, SqT X.K H1 a xs) ∧ R (Itt X.K a) H1)) := by
  refine ⟨fun pins s σ H R I h => ?_⟩
  refine thn (hl.run pins s σ H _ I h) fun v s1 ⟨x, H1, I1, r1, q1⟩ => ?_
  rcases q1 with ⟨a, e, ⟨xs, hq⟩, q⟩ | ⟨a, e, ⟨xs, hq⟩, q⟩
  · subst e
    cases r1
    obtain ⟨its, rv, p, hz⟩ := I1.list hq
    refine wpAny_pyIter_list p.isList ?_
    refine ⟨s1.heap.objs.size, [s1.heap.objs.size], _, _, H1, rfl, I1.kept (t' := s1.toks) fun b o e => Heap.get?_push_of_some _ e, turn_listH a _, ⟨_, Heap.get?_push_size _ rfl, rfl, rfl⟩, fun b hb => ?_, q⟩
    have e : b = s1.heap.objs.size := by simpa using hb
    subst e
    exact I1.fpOk (Nat.le_refl _) (I1.hok.fresh (Nat.le_refl _))
  · subst e
    cases r1
    obtain ⟨its, rv, p, hz⟩ := I1.tuple hq
    refine wpAny_pyIter_tuple (show s1.heap.IsTuple a its.toArray from p) ?_
    refine ⟨s1.heap.objs.size, [s1.heap.objs.size], _, _, H1, rfl, I1.kept (t' := s1.toks) fun b o e => Heap.get?_push_of_some _ e, turn_tupleH a _, ⟨_, Heap.get?_push_size _ rfl, rfl, rfl⟩, fun b hb => ?_, q⟩
    have e : b = s1.heap.objs.size := by simpa using hb
    subst e
    exact I1.fpOk (Nat.le_refl _) (I1.hok.fresh (Nat.le_refl _))
theorem pg_tupH {X : Cx} {es : List Expr} {k : Nat} {t : TGs} {n : Nat} {pos : Pos} (hc : HotC X) (h : PGs X es t)
    (hn : (assignEach es X.env).length = n) (hst : (assignEach es X.env).findIdx? (·.1) = none) : PG X (.Tuple es k pos) (gTup X.K n t) := by
  refine ⟨fun pins s σ H v u Q I r hw => ?_⟩
  obtain ⟨a, xs, e1, hq, hl, hw⟩ := hw
  subst e1
  cases r
  obtain ⟨its, rv, ht, hz⟩ := I.tuple hq
  obtain ⟨x1, hot, _⟩ := hot_at hc I
  refine assign_Tuple_hot hot ht (by simp [hn, ← hl, rv.length]) hst fun h' hx => ?_
  have I1 : Inv X pins σ H { s with heap := h' } := I.kept (t' := s.toks) fun b o e => hx b o (Nat.ne_of_lt (Heap.lt_size e)) e
  exact h.run pins _ σ H xs _ Q I1 (by simpa using rv) hw
/-- the block's context, the handled exception within -/
abbrev blkH (X : Cx) (p : Addr × Obj) (s : Shared) (H : Hp) (scope : Scope) (cenv : Env) (fp : List Addr) : Cx := { X.blk s H scope cenv fp with pn := [p] }
theorem blkH_hot {X : Cx} {p : Addr × Obj} {s : Shared} {H : Hp} {scope : Scope} {cenv : Env} {fp : List Addr} (h : Hot1 X.A p) : HotC (blkH X p s H scope cenv fp) := ⟨p, h, List.mem_singleton.mpr rfl⟩
theorem inv_pn {X : Cx} {pins : List (Addr × Obj)} {σ : St} {H : Hp} {s : Shared} (I : Inv X pins σ H s) (pn' : List (Addr × Obj)) (h : ∀ q ∈ pn' ++ pins, s.heap.get? q.1 = some q.2 ∧ H q.1 = none ∧ q.1 ≠ X.env.locals ∧ q.1 ∉ X.fs ∧ ∀ v, q.2.data ≠ .cell v) : Inv { X with pn := pn' } pins σ H s :=
  ⟨⟨I.ok.mod, I.ok.kind, I.ok.glob, I.ok.blt, I.ok.above, I.ok.inj, I.ok.has, I.ok.cab, I.ok.hd, I.ok.frames, I.ok.stk, I.ok.exf, I.ok.bs, I.ok.bsz, I.ok.noex, I.ok.exfs, I.ok.funs, I.ok.frf⟩, I.os, I.bare, I.base, I.loc, I.cell, I.free, I.freeC, h, I.hok, I.len⟩
section
variable {X : Cx}
theorem lc_coreH {pins : List (Addr × Obj)} {s : Shared} {σ : St} {H : Hp} {Q : VK} {elt tg iter : Expr} {ifs : List Expr} {scope : Scope} {own : List (Str × Nat)} {pos pos' : Pos} {wi : TI} {g : TG} {tt : TT} {te : TE} {use : Option (Value → Sem Unit)} {Qf : Value → Shared → Prop}
    (hc : HotC X) (hN : X.N.Nodup) (I : Inv X pins σ H s) (hi : PIH X tg iter wi) (ok : BlkOk X.N X.env.scope scope own)
    (hg : ∀ (p : Addr × Obj), Hot1 X.A p → ∀ (s : Shared) (H : Hp) (C : Addr) (cl : List (Str × Addr)) (fp : List Addr), PG (blkH X p s H scope (compEnvC scope cl C X.env) fp) tg g) (ht : ∀ (p : Addr × Obj), Hot1 X.A p → ∀ (s : Shared) (H : Hp) (C : Addr) (cl : List (Str × Addr)) (fp : List Addr), PTs (blkH X p s H scope (compEnvC scope cl C X.env) fp) ifs tt)
    (he : ∀ (p : Addr × Obj), Hot1 X.A p → ∀ (s : Shared) (H : Hp) (C : Addr) (cl : List (Str × Addr)) (fp : List Addr), PE (blkH X p s H scope (compEnvC scope cl C X.env) fp) elt te) (hs : ∀ x, foldedSetIterable iter X.env x = pure x)
    (h : tLc wi g tt te (own.map (·.2)) σ H Q)
    (hRR : ∀ D C s' m H', Inv X pins σ H' s' → Q (.ref D) H' → s'.heap.Ns C m → FpOk X pins H' C → compPost (model X.prog X.w) X.A X.xe use Qf (.ref D) C (.ok .next) s') :
    wpAny (model X.prog X.w) X.A (comprehension (.ListComp elt [⟨tg, iter, ifs, 0⟩] scope pos) scope X.env pos' (newList []) false (eval iter X.env) use) Qf X.xe s := by
  have hfree : ∀ y ∈ scope.names, y.2 = .free → ∃ c, X.env.cells.lookup y.1 = some c := fun y hy e => by
    rcases ok.free y hy e with k | k
    · exact I.ok.has _ (.inl k)
    · exact I.ok.has _ (.inr k)
  refine wpAny_comprehension_free (use := use) rfl hs (closure_ok hfree) ok.kind (fun y hy e => by rw [ok.uniq y hy, e])
    (thn (hi.run pins s σ H _ I h) fun xv s1 hx => thn hx fun itv s2 h2 => ?_)
  obtain ⟨it, fp, tn, J, H2, e, I2, T, st2, f2, q⟩ := h2
  subst e
  refine wpAny_newObj_type (newEnv_comp ?_) (by show 0 ≤ sizeLine; decide)
  generalize hD : s2.heap.objs.size = D
  have hDn : H2 D = none := I2.hok.fresh (Nat.le_of_eq hD)
  obtain ⟨W, ⟨m0, w0⟩, turn⟩ := q D hDn
  -- the new list
  generalize hs3 : ({ s2 with heap := s2.heap.push { cls := .type "list", data := .seq ([] : List Value).toArray } } : Shared) = s3
  have I3 : Inv X pins σ (upd H2 D (.lst [])) s3 := by
    rw [← hs3]
    refine I2.laid (t' := s2.toks) (fun b o e => Heap.get?_push_of_some _ e) (Nat.le_of_eq hD) ⟨Nat.zero_le _, [], 0, .nil, ?_⟩
    rw [← hD]
    exact Heap.get?_push_size _ rfl
  have h3 : s3.heap = s2.heap.push { cls := .type "list", data := .seq ([] : List Value).toArray } := by rw [← hs3]
  have sz : ∀ b ∈ fp, b < s2.heap.objs.size := fun b hb => by
    obtain ⟨o, e, _⟩ := T.obj _ _ st2 b hb
    exact Heap.lt_size e
  have f3 : ∀ b ∈ fp, FpOk X pins (upd H2 D (.lst [])) b ∧ b < s3.heap.objs.size := fun b hb => by
    have hlt := sz b hb
    refine ⟨⟨?_, (f2 b hb).2⟩, by rw [h3, Heap.size_push]; exact Nat.lt_succ_of_lt hlt⟩
    rw [upd_ne (by rw [← hD]; exact Nat.ne_of_lt hlt)]
    exact (f2 b hb).1
  have st3 : tn 0 s3.heap := T.keep _ _ _ st2 fun b _ o e => by rw [h3]; exact Heap.get?_push_of_some _ e
  obtain ⟨pH, hot1, hpin⟩ := hc
  have pinI := I3.pin pH (List.mem_append_left _ hpin)
  have I4 := block_start I3 ok hN f3
  have pg := hg pH hot1 s3 (upd H2 D (.lst [])) s3.heap.objs.size (cellsFrom (s3.heap.objs.size + 1) scope.names (cloFrom X.env.cells scope.names [])) fp
  have pt := ht pH hot1 s3 (upd H2 D (.lst [])) s3.heap.objs.size (cellsFrom (s3.heap.objs.size + 1) scope.names (cloFrom X.env.cells scope.names [])) fp
  have pe := he pH hot1 s3 (upd H2 D (.lst [])) s3.heap.objs.size (cellsFrom (s3.heap.objs.size + 1) scope.names (cloFrom X.env.cells scope.names [])) fp
  show codeAny _ _ (.compStart (.ListComp elt [⟨tg, iter, ifs, 0⟩] scope pos) 0 (.ref it) (.ref D) (compEnvC scope (cellsFrom (s3.heap.objs.size + 1) scope.names (cloFrom X.env.cells scope.names [])) s3.heap.objs.size X.env)) (compPost (model X.prog X.w) X.A X.xe use Qf (.ref D) s3.heap.objs.size) { s3 with heap := pushCells (s3.heap.push { cls := .type "dict", data := .dict #[] }) scope.names }
  have nfp : ∀ b ∈ fp, (upd H2 D (.lst [])) b = none := fun b hb => (f3 b hb).1.1
  generalize hce : compEnvC scope (cellsFrom (s3.heap.objs.size + 1) scope.names (cloFrom X.env.cells scope.names [])) s3.heap.objs.size X.env = ce at I4 pg pt pe ⊢
  have cL : ce.locals = s3.heap.objs.size := by subst hce; rfl
  generalize hH3 : upd H2 D (.lst []) = H3 at I3 I4 pg pt pe w0 nfp f3
  generalize hs4 : ({ s3 with heap := pushCells (s3.heap.push { cls := .type "dict", data := .dict #[] }) scope.names } : Shared) = s4 at I4 ⊢
  have I4 : Inv (blkH X pH s3 H3 scope ce fp) [] (wipe σ (own.map (·.2))) H3 s4 := inv_pn I4 [pH] fun q hq => by
    have e : q = pH := by simpa using hq
    rw [e]
    refine ⟨?_, by rw [← hH3]; exact pinI.2.1, ?_, ?_, pinI.2.2.2.2⟩
    · rw [← hs4]
      exact pushCells_keeps _ _ _ _ (Heap.get?_push_of_some _ pinI.1)
    · show pH.1 ≠ ce.locals
      rw [cL]
      exact Nat.ne_of_lt (Heap.lt_size pinI.1)
    · intro z
      rcases List.mem_cons.mp (I3.stkSub _ z) with z | z
      · exact pinI.2.2.1 z
      · exact pinI.2.2.2.1 z
  have st4 : tn 0 s4.heap := T.keep _ _ _ st3 fun b _ o e => by rw [← hs4]; exact pushCells_keeps _ _ _ _ (Heap.get?_push_of_some _ e)
  have stat : ∀ {σ' : St} {H' : Hp} {s' : Shared}, Inv (blkH X pH s3 H3 scope ce fp) [] σ' H' s' → (∀ b ∈ fp, H' b = none) → ∀ b ∈ fp, FpOk (blkH X pH s3 H3 scope ce fp) [] H' b := fun {σ' H' s'} I' hn b hb =>
    ⟨hn b hb, (I'.ok.exf b hb).1, I'.ok.exfs b hb, .inl hb, fun x c e => (I'.ok.exf b hb).2 x c e, fun p hp => by
      have e : p = pH := by simpa using hp
      rw [e]
      exact (f3 b hb).1.2.2.2.2.2 pH (List.mem_append_left _ hpin)⟩
  have loop : codeAny (model X.prog X.w) X.A (.compLoop (.ListComp elt [⟨tg, iter, ifs, 0⟩] scope pos) 0 (.ref it) (.ref D) ce) (compPost (model X.prog X.w) X.A X.xe use Qf (.ref D) s3.heap.objs.size) s4 := by
    refine compLoop_any (fun n s' => ∃ i H', Inv (blkH X pH s3 H3 scope ce fp) [] (wipe σ (own.map (·.2))) H' s' ∧ tn i s'.heap ∧ (∀ b ∈ fp, H' b = none) ∧ W i n H') ?_ m0 ⟨0, H3, I4, st4, nfp, w0⟩
    rintro n s5 ⟨i, H5, I5, st5, n5, w5⟩
    rcases turn i n H5 w5 with ⟨stop, qq⟩ | ⟨go, Nx, hNx, step⟩
    · have td := T.done (blkH X pH s3 H3 scope ce fp) rfl rfl rfl (blkH_hot hot1) i [] s5 _ H5 (fun _ _ => False) I5 (stat I5 n5) st5 stop
      refine thnF td fun r s6 ⟨hr, I6⟩ => ?_
      subst hr
      -- back in the def's context
      have I7 : Inv X pins σ H5 s6 := I3.call' (ch := fp) I6.os I6.base I6.hok I6.bare fun b hb => ⟨(f3 b hb).1.2.2.2.1, (f3 b hb).1.2.1, (f3 b hb).1.2.2.2.2.1, (f3 b hb).1.2.2.2.2.2⟩
      have nC : H5 s3.heap.objs.size = none := by
        have z : H5 ce.locals = none := I6.free
        rw [cL] at z
        exact z
      obtain ⟨m, hn, _⟩ := I6.loc
      have hn : s6.heap.Ns ce.locals m := hn
      rw [cL] at hn
      exact hRR D s3.heap.objs.size s6 m H5 I7 qq hn (I3.fpOk (Nat.le_refl _) nC)
    · have ti := T.item (blkH X pH s3 H3 scope ce fp) rfl rfl rfl (blkH_hot hot1) i [] s5 _ H5 (fun _ _ => False) I5 (stat I5 n5) st5 go
      refine thnF ti fun r s6 ⟨u, hr, h6⟩ => ?_
      subst hr
      refine thnF h6 fun _ s7 ⟨x, H7, I7, r7, y7, st7, n7⟩ => ?_
      have I7' := I7.pinned (stat I7 n7) (T.obj _ _ st7)
      refine thnF (pg.run _ s7 _ H7 x u _ I7' r7 (step x H7 y7)) fun _ s8 ⟨σ8, H8, I8, hw8, q8⟩ => ?_
      refine thnF (pt.run _ s8 σ8 H8 _ I8 q8) fun b s9 ⟨H9, I9, q9⟩ => ?_
      -- the turn's end
      have fin : ∀ {s' : Shared} {H' : Hp}, Inv (blkH X pH s3 H3 scope ce fp) ([] ++ pinsAt fp s7.heap) σ8 H' s' → Nx H' → ∃ m, m < n ∧ ∃ i H', Inv (blkH X pH s3 H3 scope ce fp) [] (wipe σ (own.map (·.2))) H' s' ∧ tn i s'.heap ∧ (∀ b ∈ fp, H' b = none) ∧ W i m H' := fun {s' H'} I' nx => by
        obtain ⟨m', hm, w'⟩ := hNx H' nx
        have pin' : ∀ b ∈ fp, ∀ o, s7.heap.get? b = some o → s'.heap.get? b = some o ∧ H' b = none := fun b hb o e =>
          let z := I'.pin (b, o) (List.mem_append_right _ (List.mem_append_right _ (mem_pinsAt hb e)))
          ⟨z.1, z.2.1⟩
        have hl : (wipe σ (own.map (·.2))).length = σ8.length := by rw [← hw8, wipe_length]
        refine ⟨m', hm, i + 1, H', (I'.unpinned (pins := [])).weak hl (fun j v e => ?_), T.keep _ _ _ st7 fun b hb o e => (pin' b hb o e).1, fun b hb => ?_, w'⟩
        · rw [← hw8] at e
          exact (wipe_some e).1
        · obtain ⟨o, e, _⟩ := T.obj _ _ st7 b hb
          exact (pin' b hb o e).2
      cases b with
      | false =>
        simp only [Bool.false_eq_true, if_false] at q9 ⊢
        exact fin I9 q9
      | true =>
        simp only [if_true] at q9 ⊢
        refine thnF (pe.run _ s9 σ8 H9 _ I9 q9) fun z s10 ⟨yv, H10, I10, r10, acc, hD10, hz10, nx⟩ => ?_
        exact app_ok (X := blkH X pH s3 H3 scope ce fp) I10 hD10 hz10 r10 fun s11 I11 => fin I11 nx
  exact codeAny_compStart_list loop (T.self X.A 0 _ _ _ st4 loop)
theorem pe_lcH {elt tg iter : Expr} {ifs : List Expr} {scope : Scope} {own : List (Str × Nat)} {pos : Pos} {wi : TI} {g : TG} {tt : TT} {te : TE} (hc : HotC X) (hN : X.N.Nodup) (hi : PIH X tg iter wi) (ok : BlkOk X.N X.env.scope scope own)
    (hg : ∀ (p : Addr × Obj), Hot1 X.A p → ∀ (s : Shared) (H : Hp) (C : Addr) (cl : List (Str × Addr)) (fp : List Addr), PG (blkH X p s H scope (compEnvC scope cl C X.env) fp) tg g) (ht : ∀ (p : Addr × Obj), Hot1 X.A p → ∀ (s : Shared) (H : Hp) (C : Addr) (cl : List (Str × Addr)) (fp : List Addr), PTs (blkH X p s H scope (compEnvC scope cl C X.env) fp) ifs tt)
    (he : ∀ (p : Addr × Obj), Hot1 X.A p → ∀ (s : Shared) (H : Hp) (C : Addr) (cl : List (Str × Addr)) (fp : List Addr), PE (blkH X p s H scope (compEnvC scope cl C X.env) fp) elt te) (hs : ∀ x, foldedSetIterable iter X.env x = pure x := by intro _; rfl) :
    PE X (.ListComp elt [⟨tg, iter, ifs, 0⟩] scope pos) (tLc wi g tt te (own.map (·.2))) := by
  refine ⟨fun pins s σ H Q I h => ?_⟩
  rw [eval_ListComp]
  refine lc_coreH hc hN I hi ok hg ht he hs h fun D C s' m H' I' q hn f => ⟨m, hn, fun h'' sb => ?_⟩
  obtain ⟨f0, f1, f2, f3, f4, f5⟩ := f
  exact ⟨.ref D, H', I'.turned (t' := s'.toks) (fun b o hb e => (sb.2 b hb).trans e) f0 f1 f3 f4 f5, rfl, q⟩
theorem ps_setLcH {i : Nat} {y : Str} {py : Pos} {elt tg iter : Expr} {ifs : List Expr} {scope : Scope} {own : List (Str × Nat)} {pos spos : Pos} {wi : TI} {g : TG} {tt : TT} {te : TE} (hc : HotC X) (hN : X.N.Nodup) (hy : X.N[i]? = some y) (hyl : X.env.scope.names.lookup y = some .local)
    (hsw : swapsWith (.ListComp elt [⟨tg, iter, ifs, 0⟩] scope pos) (some (.Name y py)) spos.line X.env = pure true) (hi : PIH X tg iter wi) (ok : BlkOk X.N X.env.scope scope own)
    (hg : ∀ (p : Addr × Obj), Hot1 X.A p → ∀ (s : Shared) (H : Hp) (C : Addr) (cl : List (Str × Addr)) (fp : List Addr), PG (blkH X p s H scope (compEnvC scope cl C X.env) fp) tg g) (ht : ∀ (p : Addr × Obj), Hot1 X.A p → ∀ (s : Shared) (H : Hp) (C : Addr) (cl : List (Str × Addr)) (fp : List Addr), PTs (blkH X p s H scope (compEnvC scope cl C X.env) fp) ifs tt)
    (he : ∀ (p : Addr × Obj), Hot1 X.A p → ∀ (s : Shared) (H : Hp) (C : Addr) (cl : List (Str × Addr)) (fp : List Addr), PE (blkH X p s H scope (compEnvC scope cl C X.env) fp) elt te) (hs : ∀ x, foldedSetIterable iter X.env x = pure x := by intro _; rfl) :
    PS X (.Assign [.Name y py] (.ListComp elt [⟨tg, iter, ifs, 0⟩] scope pos) spos) (tAsg (tLc wi g tt te (own.map (·.2))) (gName i)) := by
  refine ⟨fun pins s σ H D I h => ?_⟩
  rw [exec_Assign_Name_used _ _ _ _ hsw]
  refine wpAny_bind (wpAny_standAt (wpAny_bind ?_))
  show wpAny _ X.A (do let _ ← comprehension (.ListComp elt [⟨tg, iter, ifs, 0⟩] scope pos) scope X.env (firstIterPos [⟨tg, iter, ifs, 0⟩] pos) (newList []) false (eval iter X.env) (some (assign (.Name y py) X.env))) _ _ s
  have h : tLc wi g tt te (own.map (·.2)) σ H (fun x H1 => gName i x σ H1 D.nx) := h
  refine wpAny_bind (thn (lc_coreH (Qf := fun _ s' => SP X pins D .next s') hc hN I hi ok hg ht he hs h fun L C s' m H' I' q hn f => ?_) fun _ s' hq => wpAny_pure (wpAny_pure hq))
  show wpAny _ _ (assign (.Name y py) X.env (.ref L)) _ _ _
  refine wpAny_assign_Name (store_ok2 (v := V.ref L) I' hN hy (.inl hyl) rfl (fun s2 I2 ⟨a, sb, ha⟩ => ?_) (.inr hyl))
  obtain ⟨f0, f1, f2, f3, f4, f5⟩ := f
  have haC : C ≠ a := by
    rcases ha with z | z
    · rw [z]; exact f1
    · exact fun e => f4 y a z e.symm
  refine ⟨m, hn.sameBut sb haC, fun h3 sb3 => ?_⟩
  exact ⟨_, H', I2.turned (t' := s2.toks) (fun b o hb e => (sb3.2 b hb).trans e) f0 f1 f3 f4 f5, q⟩
end
end EvHot

/-! The look: does an expression of the text say what a value of Ex says. The readings by the evaluator. -/
namespace Ev
open PySem PySem.Spec PyProof.Rows L2 LamX

/-! ### the look -/
structure PC where
  fn : List Str
  cn : List Str
  bt : List Str
  gc : List (Str × D)
  er : Str
  /-- is the class j beneath the class k -/
  sb : Nat → Nat → Option Bool
structure MC where
  N : List Str
  sc : Scope
  er : Bool
  /-- an exception is handled -/
  hot : Bool
def glb (sc : Scope) (x : Str) : Bool := match sc.names.lookup x with | some .globalImplicit => true | _ => false
def vis (sc : Scope) (x : Str) : Bool := match sc.names.lookup x with | some .local => true | some .cell => true | some .free => true | _ => false
def locl (sc : Scope) (x : Str) : Bool := match sc.names.lookup x with | some .local => true | _ => false
def loccell (sc : Scope) (x : Str) : Bool := match sc.names.lookup x with | some .local => true | some .cell => true | _ => false
def okN (x : Str) : Bool := !(x == ("__debug__" : Str)) && !(x == ("__classdict__" : Str)) && !(decide (x = ("__name__" : Str)))
def cstOk : D → Const → Bool
  | .non, .none => true
  | .bl b, .bool c => b == c
  | .int i, .int j => i == j
  | .str x, .str y => decide (x = y)
  | _, _ => false
mutual
def D.same : D → D → Bool
  | .non, .non => true
  | .bl a, .bl b => a == b
  | .int a, .int b => a == b
  | .str a, .str b => decide (a = b)
  | .tup xs, .tup ys => D.sames xs ys
  | .lst xs, .lst ys => D.sames xs ys
  | .fn a, .fn b => a == b
  | .cup, .cup => true
  | .exc a, .exc b => a == b
  | _, _ => false
def D.sames : List D → List D → Bool
  | [], [] => true
  | x :: xs, y :: ys => x.same y && D.sames xs ys
  | _, _ => false
end
mutual
theorem D.same_eq : ∀ a b : D, a.same b = true → a = b
  | .non, b, h => by cases b <;> first | rfl | cases h
  | .bl a, b, h => by cases b <;> first | (simp only [D.same, beq_iff_eq] at h; rw [h]) | cases h
  | .int a, b, h => by cases b <;> first | (simp only [D.same, beq_iff_eq] at h; rw [h]) | cases h
  | .str a, b, h => by cases b <;> first | (simp only [D.same, decide_eq_true_eq] at h; rw [h]) | cases h
  | .tup xs, b, h => by
    cases b <;> first | cases h | skip
    rename_i ys
    rw [D.sames_eq xs ys (by simpa only [D.same] using h)]
  | .lst xs, b, h => by
    cases b <;> first | cases h | skip
    rename_i ys
    rw [D.sames_eq xs ys (by simpa only [D.same] using h)]
  | .fn a, b, h => by cases b <;> first | (simp only [D.same, beq_iff_eq] at h; rw [h]) | cases h
  | .cup, b, h => by cases b <;> first | rfl | cases h
  | .exc a, b, h => by cases b <;> first | (simp only [D.same, beq_iff_eq] at h; rw [h]) | cases h
theorem D.sames_eq : ∀ a b : List D, D.sames a b = true → a = b
  | [], b, h => by cases b <;> first | rfl | cases h
  | x :: xs, b, h => by
    cases b with
    | nil => cases h
    | cons y ys =>
      simp only [D.sames, Bool.and_eq_true] at h
      rw [D.same_eq x y h.1, D.sames_eq xs ys h.2]
end
def Bi.name : Bi → Str
  | .len => "len" | .abs => "abs" | .int => "int" | .tuple => "tuple" | .all => "all" | .any => "any" | .sum => "sum" | .gcd => "gcd"
def Ty.name : Ty → Str
  | .int => "int" | .bool => "bool" | .str => "str" | .tuple => "tuple" | .list => "list"
def Ty.nm : Ty → String
  | .int => "int" | .bool => "bool" | .str => "str" | .tuple => "tuple" | .list => "list"
/-- an expression that is walked only -/
def Ex.val : Ex → Bool
  | .rng _ => false
  | .zip _ _ => false
  | _ => true
def Ex.isZip : Ex → Bool
  | .zip _ _ => true
  | _ => false
def isTup : Expr → Bool
  | .Tuple _ _ _ => true
  | _ => false
mutual
def mT (m : MC) : Tg → Expr → Bool
  | .n i, .Name x _ => decide (m.N[i]? = some x) && locl m.sc x
  | .t ts, .Tuple es _ _ => mTs m ts es
  | _, _ => false
def mTs (m : MC) : List Tg → List Expr → Bool
  | [], [] => true
  | a :: as, e :: es => mT m a e && mTs m as es
  | _, _ => false
end
mutual
/-- like mT, a name may be a cell -/
def mTc (m : MC) : Tg → Expr → Bool
  | .n i, .Name x _ => decide (m.N[i]? = some x) && loccell m.sc x
  | .t ts, .Tuple es _ _ => mTcs m ts es
  | _, _ => false
def mTcs (m : MC) : List Tg → List Expr → Bool
  | [], [] => true
  | a :: as, e :: es => mTc m a e && mTcs m as es
  | _, _ => false
end
def noArgs : Arguments → Bool
  | ⟨[], [], .none, [], [], .none, []⟩ => true
  | _ => false
def ownP (m : MC) (own : List Nat) : List (Str × Nat) := own.map fun i => (m.N.getD i Str.empty, i)
def MC.blk (m : MC) (scope : Scope) : MC := ⟨m.N, relS scope m.sc, m.er && !m.hot, m.hot⟩
mutual
def mE (p : PC) : MC → Ex → Expr → Bool
  | m, .v i, .Name x _ => decide (m.N[i]? = some x) && vis m.sc x && okN x
  | m, .c d, .Constant k _ _ => cstOk d k
  | m, .g y d, .Name x _ => decide (y = x) && glb m.sc x && okN x && p.gc.any fun q => decide (q.1 = y) && q.2.same d
  | m, .f k, .Name x _ => decide (p.fn[k]? = some x) && glb m.sc x && okN x
  | m, .tup es, .Tuple xs _ _ => mL p m es xs
  | m, .lst es, .List xs _ => mL p m es xs
  | m, .bin o a b, .BinOp x o' y _ => decide (o = o') && (a.val && mE p m a x) && (b.val && mE p m b y)
  | m, .neg a, .UnaryOp .USub x _ => a.val && mE p m a x
  | m, .not a, .UnaryOp .Not x _ => a.val && mE p m a x
  | m, .cmp o a b, .Compare x [o'] [y] _ => decide (o = o') && (a.val && mE p m a x) && (b.val && mE p m b y) && !m.hot
  | m, .ch o o2 a b c, .Compare x [o', o2'] [y, z] _ => decide (o = o') && decide (o2 = o2') && (a.val && mE p m a x) && (b.val && mE p m b y) && (c.val && mE p m c z) && !decide (o = .In) && !decide (o = .NotIn) && !decide (o2 = .In) && !decide (o2 = .NotIn) && !m.hot
  | m, .bop o es, .BoolOp o' xs _ => decide (o = o') && mL p m es xs && !xs.isEmpty
  | m, .ite c a b, .IfExp z x y _ => (c.val && mE p m c z) && (a.val && mE p m a x) && (b.val && mE p m b y)
  | m, .ix a b, .Subscript x y _ => (a.val && mE p m a x) && (b.val && mE p m b y)
  | m, .call k es, .Call (.Name f _) xs [] _ => decide (p.fn[k]? = some f) && glb m.sc f && okN f && mL p m es xs && !m.hot
  | m, .callv i es, .Call (.Name x _) xs [] _ => decide (m.N[i]? = some x) && vis m.sc x && okN x && mL p m es xs && !xs.isEmpty && !m.hot
  | m, .bi b es, .Call (.Name f _) xs [] _ => decide (f = b.name) && glb m.sc f && (decide (b = .gcd) || p.bt.any fun y => decide (y = f)) && mL p m es xs && !xs.isEmpty && !m.hot
  | m, .isi a t, .Call (.Name f _) [x, .Name ty _] [] _ => decide (f = ("isinstance" : Str)) && glb m.sc f && (p.bt.any fun y => decide (y = f)) && decide (ty = t.name) && glb m.sc ty && (p.bt.any fun y => decide (y = ty)) && (a.val && mE p m a x)
  | m, .rng a, .Call (.Name f _) [x] [] _ => decide (f = ("range" : Str)) && glb m.sc f && (p.bt.any fun y => decide (y = f)) && (a.val && mE p m a x)
  | m, .zip a b, .Call (.Name f _) [x, y] [] _ => decide (f = ("zip" : Str)) && glb m.sc f && (p.bt.any fun y => decide (y = f)) && (a.val && mE p m a x) && (b.val && mE p m b y)
  | m, .lc own tg src ifs elt, .ListComp elt' [⟨tg', it', ifs', 0⟩] scope _ =>
    blkC m.N m.sc scope (ownP m own) && (tg.slots.all fun i => own.contains i) && (own.all fun i => decide (i < m.N.length)) && mTc ⟨m.N, scope, m.er, m.hot⟩ tg tg' && mE p m src it' && (!src.isZip || isTup tg') && mL p (m.blk scope) ifs ifs' && decide (ifs'.length ≤ 1) && (elt.val && mE p (m.blk scope) elt elt') && (!m.hot || src.val)
  | m, .err e, .Call (.Name f _) [.Lambda ps body scope _] [] _ => m.er && decide (f = p.er) && glb m.sc f && okN f && noArgs ps && lamSB m.sc scope && (e.val && mE p ⟨m.N, scope, false, false⟩ e body) && !m.hot
  | m, .isE i t k, .Call (.Name f _) [.Name x _, .Name c _] [] _ => m.hot && m.er && decide (f = ("isinstance" : Str)) && glb m.sc f && (p.bt.any fun y => decide (y = f)) && decide (m.N[i]? = some x) && vis m.sc x && okN x && decide (p.cn[k]? = some c) && glb m.sc c && okN c && t.all fun q => decide (p.sb q.1 k = some q.2)
  | m, .join a b, .Call (.Attribute (.Constant k j p0) attr apos) [e] [] cpos => decide (attr = ("join" : Str)) && (a.val && mE p m a (.Constant k j p0)) && (b.val && mE p m b e) && (apos.endLine == cpos.line)
  | _, _, _ => false
def mL (p : PC) : MC → List Ex → List Expr → Bool
  | _, [], [] => true
  | m, e :: es, x :: xs => (e.val && mE p m e x) && mL p m es xs
  | _, _, _ => false
end

/-! ### readings -/
section
variable (g : G) (C : Addr) (wd : Words) (nw : Str) (call : Nat → List D → Cup → Re D)
/-- the slots that is names bear what the evaluator's slots say -/
def RelE (H : Hp) (A : Addr → Prop) (env : En) (σ : L2.St) (is : List Nat) : Prop := ∀ i ∈ is, ∀ b d, env[i]? = some (some (b, d)) → ∃ v, σ[i]? = some (some v) ∧ Rp g C H A d v
def Out {α : Type} (W : WX) (σ : L2.St) (H : Hp) (r : Re α) (P : α → Cup → Prop) : Prop := match r with
  | .ok d u => P d u
  | .exc k u => ∀ H', Ext C H H' → Wd g C H' u → W (.ref (g.ca k)) none σ H'
  | .bad => False
structure Post (H : Hp) (A : Addr → Prop) (fr : Bool) (d : D) (u : Cup) (v : V) (H' : Hp) : Prop where
  ext : Ext C H H'
  wd : Wd g C H' u
  rp : Rp g C H' (fun a => A a ∨ NL H a) d v
  fr : fr = true → ∀ ds, d = .lst ds → ∀ p, v = .ref p → NL H p
structure Posts (H : Hp) (A : Addr → Prop) (ds : List D) (u : Cup) (vs : List V) (H' : Hp) : Prop where
  ext : Ext C H H'
  wd : Wd g C H' u
  rp : Rps g C H' (fun a => A a ∨ NL H a) ds vs
def tE (W : WX) (e : Ex) : TE := fun σ H Q => ∃ env u A, RelE g C H A env σ e.fv ∧ Wd g C H u ∧ Out g C W σ H (evE wd nw call e env u) fun d u' => ∀ v H', Post g C H A e.fresh d u' v H' → Q v H'
def tT (W : WX) (e : Ex) : TT := fun σ H Q => ∃ env u A, RelE g C H A env σ e.fv ∧ Wd g C H u ∧ Out g C W σ H (evE wd nw call e env u) fun d u' => ∃ b, d = .bl b ∧ ∀ H', Ext C H H' → Wd g C H' u' → Q b H'
def tL (W : WX) (es : List Ex) : TA := fun σ H Q => ∃ env u A, RelE g C H A env σ (Ex.fvs es) ∧ Wd g C H u ∧ Out g C W σ H (evL wd nw call es env u) fun ds u' => ∀ vs H', Posts g C H A ds u' vs H' → Q vs H'
def tB (W : WX) (o : BoolOp) (es : List Ex) : TE := fun σ H Q => ∃ env u A, RelE g C H A env σ (Ex.fvs es) ∧ Wd g C H u ∧ Out g C W σ H (evB wd nw call o es env u) fun d u' => ∀ v H', Post g C H A false d u' v H' → Q v H'
/-- a def's promise -/
def SpF (r : List D → Cup → Re D) : Sp := fun vs H Q E => ∃ C A ds u, Rps g C H A ds vs ∧ Wd g C H u ∧ Out g C (fun c d _ H => E c d H) [] H (r ds u) fun d u' => ∀ v H', Ext C H H' → Wd g C H' u' → Rp g C H' (fun a => A a ∨ NL H a) d v → Q v H'
end
section
variable {g : G} {C : Addr} {wd : Words} {nw : Str} {call : Nat → List D → Cup → Re D} {H H1 H2 : Hp} {A A' : Addr → Prop} {env : En} {σ : L2.St} {is js : List Nat} {W : WX} {α β : Type}
theorem RelE.sub (h : RelE g C H A env σ is) (s : ∀ i ∈ js, i ∈ is) : RelE g C H A env σ js := fun i hi => h i (s i hi)
theorem RelE.left (h : RelE g C H A env σ (is ++ js)) : RelE g C H A env σ is := h.sub fun _ hi => List.mem_append_left _ hi
theorem RelE.right (h : RelE g C H A env σ (is ++ js)) : RelE g C H A env σ js := h.sub fun _ hi => List.mem_append_right _ hi
theorem RelE.ext (h : RelE g C H A env σ is) (x : Ext C H H1) : RelE g C H1 A env σ is := fun i hi b d e => by
  obtain ⟨v, e1, e2⟩ := h i hi b d e
  exact ⟨v, e1, x.rp e2⟩
theorem RelE.mono (h : RelE g C H A env σ is) (k : ∀ a, A a → A' a) : RelE g C H A' env σ is := fun i hi b d e => by
  obtain ⟨v, e1, e2⟩ := h i hi b d e
  exact ⟨v, e1, e2.mono k⟩
theorem Out.imp {r : Re α} {P P' : α → Cup → Prop} (h : Out g C W σ H r P) (k : ∀ a u, P a u → P' a u) : Out g C W σ H r P' := by
  cases r with
  | ok a u => exact k a u h
  | exc k u => exact h
  | bad => exact h
/-- the first step of two -/
theorem Out.bind {r : Re α} {f : α → Cup → Re β} {P : β → Cup → Prop} (h : Out g C W σ H (r.bind f) P) : Out g C W σ H r fun a u => Out g C W σ H (f a u) P := by
  cases r with
  | ok a u => exact h
  | exc k u => exact h
  | bad => exact h
theorem Out.up {r : Re α} {P : α → Cup → Prop} (x : Ext C H H1) (h : Out g C W σ H r P) : Out g C W σ H1 r P := by
  cases r with
  | ok a u => exact h
  | exc k u => exact fun H' e w => h H' (x.trans e) w
  | bad => exact h
theorem Posts.toPost {fr : Bool} {A0 : Addr → Prop} {d : D} {u : Cup} {v : V} (x : Ext C H H1) (h : Post g C H1 A fr d u v H2) : Post g C H A fr d u v H2 := ⟨x.trans h.ext, h.wd, h.rp.mono fun a ha => ha.elim .inl fun n => .inr (x.free a n), fun f ds ed p e => x.free p (h.fr f ds ed p e)⟩
end
end Ev

/-! Each expression of the text keeps the reading by the evaluator: the parts. -/
namespace Ev
open PySem PySem.Spec PyProof.Rows L2 LamX

theorem peImp {X : Cx} {e : Expr} {t t' : TE} (h : PE X e t) (k : ∀ σ H Q, t' σ H Q → t σ H Q) : PE X e t' := ⟨fun pins s σ H Q I q => h.run pins s σ H Q I (k σ H Q q)⟩
theorem ptImp {X : Cx} {e : Expr} {t t' : TT} (h : PT X e t) (k : ∀ σ H Q, t' σ H Q → t σ H Q) : PT X e t' := ⟨fun pins s σ H Q I q => h.run pins s σ H Q I (k σ H Q q)⟩
theorem paImp {X : Cx} {e : List Expr} {t t' : TA} (h : PA X e t) (k : ∀ σ H Q, t' σ H Q → t σ H Q) : PA X e t' := ⟨fun pos pins s σ H Q I q => h.run pos pins s σ H Q I (k σ H Q q)⟩

/-- where the defs, the classes stand; the tables -/
structure Fx where
  fa : Nat → Addr
  ca : Nat → Addr
  T : List (Addr × Str)
  kn : Nat → Prop
  xa : Addr
  xk : Nat
abbrev gx (X : Cx) (f : Fx) : G := ⟨X.K, X.mg, f.fa, f.ca, f.T, f.kn, f.xa, f.xk⟩
/-- what the law's own word for an error makes of its lambda -/
def TTe (g : G) (C : Addr) (wd : Words) (nw : Str) : (XK → Hp → VK → Prop) → Hp → VK → Prop := fun tl H Q =>
  tl (fun cls d H' => d = none ∧ ∃ k x u, cls = .ref (g.ca k) ∧ wd k = some x ∧ Wd g C H' u ∧ ∀ H'', Ext C H' H'' → Wd g C H'' u → Q (.str x) H'') H fun _ H' => Q (.str nw) H'
/-- the def that calls a lambda and gives a word for its error; the maker's table -/
def ErOk (p : PC) (f : Fx) (wd : Words) (nw : Str) (n : Nat) (X : Cx) : Prop :=
  ∃ (ge c P : Addr) (pg : Arguments) (bg : List Stmt) (sg : Scope) (dV kV doc pm cdv ct oc : Value) (an od : Option Addr) (osl : Array (Option Value)) (Ng : List Str) (a : Str),
    X.mg p.er = some (.ref ge) ∧ PySem.W.keepIn X.K (.ref ge) = true ∧ X.K.lookup ge = some ⟨oc, od, .func (PySem.W.fnOf p.er p.er pg bg sg dV kV doc pm an cdv ct), osl⟩ ∧ PySem.W.codeIn X.K cdv p.er = true ∧ L2.Binds X.K (PySem.W.fnOf p.er p.er pg bg sg dV kV doc pm an cdv ct) [a] [] ∧
    FnScope Ng [a] sg ∧ Ng[0]? = some a ∧ Vis sg a ∧ (a == ("__debug__" : Str)) = false ∧ (a == ("__classdict__" : Str)) = false ∧ (∀ C, LamN.GivesTo X Ng p.er sg ge cdv bg a (X.env.qual ++ "<lambda>") (TTe (gx X f) C wd nw)) ∧
    TabB X.base X.mg c P ∧ X.env.code = .ref c ∧ (P, X.env.qual ++ "<lambda>") ∈ f.T ∧ (∀ q ∈ f.T, q.1 = P → q.2 = X.env.qual ++ "<lambda>") ∧ Room (3 * n + 2) X.A
/-- what a context must be for a look's context -/
structure XOk (p : PC) (f : Fx) (wd : Words) (nw : Str) (pr : List FD) (n : Nat) (X : Cx) (m : MC) : Prop where
  N : X.N = m.N
  nd : X.N.Nodup
  sc : X.env.scope = m.sc
  calm : m.hot = false → X.calm = true
  room : m.hot = false → Room (3 * n) X.A
  hot : m.hot = true → L2H.HotC X
  fn : ∀ k x, p.fn[k]? = some x → X.mg x = some (.ref (f.fa k)) ∧ PySem.W.keepIn X.K (.ref (f.fa k)) = true ∧ ∃ fd ps, Binds X.K fd ps [] ∧ FnOk X.prog X.w X.K X.mg X.base (L2N.CX X.prog X.w) (3 * n) (f.fa k) fd ps (SpF (gx X f) (run wd nw pr n k))
  kn : ∀ k, f.kn k ↔ ∃ x, p.fn[k]? = some x
  bt : ∀ x ∈ p.bt, X.mg x = none
  gcd : X.mg "gcd" = some (.builtin "math.gcd")
  er : m.er = true → m.hot = false → ErOk p f wd nw n X
  isx : m.hot = true → m.er = true → CallR X (.builtin "isinstance") (rIsE X.K (f.ca f.xk) f.xa) ∧ (∀ k b, p.sb f.xk k = some b → PySem.W.kitOne X.K (.ref (f.ca f.xk)) (.ref (f.ca k)) = some b) ∧ ∀ k x, p.cn[k]? = some x → X.mg x = some (.ref (f.ca k))
  gc : ∀ q ∈ p.gc, ∃ u v, X.mg q.1 = some u ∧ RelV v u ∧ ∀ C H A, Rp (gx X f) C H A q.2 v

section
variable {p : PC} {f : Fx} {wd : Words} {nw : Str} {pr : List FD} {n : Nat} {X : Cx} {m : MC} {C : Addr} {W : WX}
theorem okN_of {x : Str} (h : okN x = true) : (x == ("__debug__" : Str)) = false ∧ (x == ("__classdict__" : Str)) = false ∧ x ≠ "__name__" := by
  unfold okN at h
  simp only [Bool.and_eq_true, Bool.not_eq_true', decide_eq_false_iff_not] at h
  exact ⟨h.1.1, h.1.2, h.2⟩
theorem XOk.vis (h : XOk p f wd nw pr n X m) {x : Str} (e : Ev.vis m.sc x = true) : Vis X.env.scope x := by
  unfold Ev.vis at e
  rw [← h.sc] at e
  split at e <;> first | exact .inl (by assumption) | exact .inr (.inl (by assumption)) | exact .inr (.inr (by assumption)) | cases e
theorem XOk.glb (h : XOk p f wd nw pr n X m) {x : Str} (e : Ev.glb m.sc x = true) : Gl X x := by
  unfold Ev.glb at e
  rw [← h.sc] at e
  show X.env.scope.names.lookup x = some .globalImplicit
  split at e <;> first | assumption | cases e

section
variable {call : Nat → List D → Cup → Re D}
theorem pe_v (h : XOk p f wd nw pr n X m) {i : Nat} {x : Str} {pos : Pos} (e : mE p m (.v i) (.Name x pos) = true) : PE X (.Name x pos) (tE (gx X f) C wd nw call W (.v i)) := by
  simp only [mE, Bool.and_eq_true, decide_eq_true_eq] at e
  obtain ⟨⟨e1, e2⟩, e3⟩ := e
  obtain ⟨o1, o2, o3⟩ := okN_of e3
  refine peImp (pe_var (i := i) (by rw [h.N]; exact e1) (h.vis e2) o1 o2) fun σ H Q q => ?_
  obtain ⟨env, u, A, rel, w, o⟩ := q
  simp only [evE] at o
  split at o
  · rename_i b d ed
    obtain ⟨v, h1, h2⟩ := rel i (by simp [Ex.fv]) b d ed
    exact ⟨v, h1, o v H ⟨w.refl, w, h2.mono fun _ => .inl, fun z => by cases z⟩⟩
  · exact o.elim
theorem pe_c {d : D} {k : Const} {j : Nat} {pos : Pos} (e : cstOk d k = true) : PE X (.Constant k j pos) (tE (gx X f) C wd nw call W (.c d)) := by
  have fin : ∀ {σ : L2.St} {H : Hp} {Q : VK} {v : V}, (∀ C A, Rp (gx X f) C H A d v) → tE (gx X f) C wd nw call W (.c d) σ H Q → Q v H := fun {σ H Q v} r q => by
    obtain ⟨env, u, A, rel, w, o⟩ := q
    simp only [evE] at o
    exact o _ H ⟨w.refl, w, r _ _, fun z => by cases z⟩
  cases d <;> cases k <;> first | cases e | skip
  · exact peImp pe_non fun σ H Q q => fin (fun _ _ => rfl) q
  · simp only [cstOk, beq_iff_eq] at e
    subst e
    exact peImp pe_bl fun σ H Q q => fin (fun _ _ => rfl) q
  · simp only [cstOk, beq_iff_eq] at e
    subst e
    exact peImp pe_int fun σ H Q q => fin (fun _ _ => rfl) q
  · simp only [cstOk, decide_eq_true_eq] at e
    subst e
    exact peImp pe_str fun σ H Q q => fin (fun _ _ => rfl) q
theorem pe_g (h : XOk p f wd nw pr n X m) {y x : Str} {d : D} {pos : Pos} (e : mE p m (.g y d) (.Name x pos) = true) : PE X (.Name x pos) (tE (gx X f) C wd nw call W (.g y d)) := by
  simp only [mE, Bool.and_eq_true, decide_eq_true_eq, List.any_eq_true] at e
  obtain ⟨⟨⟨e1, e2⟩, e3⟩, q, hq, e4, e5⟩ := e
  obtain ⟨o1, o2, o3⟩ := okN_of e3
  obtain ⟨u, v, h1, h2, h3⟩ := h.gc q hq
  subst e1
  rw [e4] at h1
  have e6 := D.same_eq _ _ e5
  refine peImp (pe_glob (h.glb e2) h1 h2 o1) fun σ H Q q' => ?_
  obtain ⟨env, u, A, rel, w, o⟩ := q'
  simp only [evE] at o
  exact o _ H ⟨w.refl, w, by rw [← e6]; exact h3 _ _ _, fun z => by cases z⟩
theorem pe_f (h : XOk p f wd nw pr n X m) {k : Nat} {x : Str} {pos : Pos} (e : mE p m (.f k) (.Name x pos) = true) : PE X (.Name x pos) (tE (gx X f) C wd nw call W (.f k)) := by
  simp only [mE, Bool.and_eq_true, decide_eq_true_eq] at e
  obtain ⟨⟨e1, e2⟩, e3⟩ := e
  obtain ⟨o1, o2, o3⟩ := okN_of e3
  obtain ⟨h1, h2, h3⟩ := h.fn k x e1
  refine peImp (pe_glob (v := .ref (f.fa k)) (h.glb e2) h1 rfl o1) fun σ H Q q' => ?_
  obtain ⟨env, u, A, rel, w, o⟩ := q'
  simp only [evE] at o
  exact o _ H ⟨w.refl, w, ⟨(h.kn k).mpr ⟨x, e1⟩, rfl⟩, fun z => by cases z⟩

/-! ### the expressions of arguments are no stars, no slices, no sets, no comprehensions where that is asked -/
def starless : Expr → Bool
  | .Starred _ _ => false
  | .Slice _ _ _ _ => false
  | .Set _ _ _ => false
  | _ => true
theorem mE_starless : ∀ {e : Ex} {x : Expr}, mE p m e x = true → starless x = true := fun {e x} h => by
  cases x with
  | Starred _ _ => cases e <;> simp [mE] at h
  | Slice _ _ _ _ => cases e <;> simp [mE] at h
  | Set _ _ _ => cases e <;> simp [mE] at h
  | _ => rfl
theorem star_of {x : Expr} {xs : List Expr} {env : Env} (h : starless x = true) : starEach (x :: xs) env = (false, eval x env) :: starEach xs env := by
  cases x <;> first | rfl | cases h
theorem mL_stars : ∀ {es : List Ex} {xs : List Expr} {env : Env} {pos : Pos}, mL p m es xs = true → (backTo pos (starEach xs env)).any (·.1) = false
  | [], [], env, pos, _ => rfl
  | [], x :: xs, env, pos, h => by cases h
  | e :: es, [], env, pos, h => by cases h
  | e :: es, x :: xs, env, pos, h => by
    simp only [mL, Bool.and_eq_true] at h
    rw [star_of (mE_starless h.1.2)]
    show ((false || (backTo pos (starEach xs env)).any (·.1)) = false)
    rw [mL_stars (env := env) (pos := pos) h.2]
    rfl
theorem nobeh {op : CmpOp} {b : Expr} (h : starless b = true) : behindInMarks op b = false := by
  cases b <;> first | rfl | cases h
theorem plainIx_of {b : Expr} (h : starless b = true) : PlainIx b := by
  intro o i
  cases b <;> first | rfl | cases h

/-! ### displays -/
theorem pa_nil' : PA X [] (tL (gx X f) C wd nw call W []) := paImp pa_nil fun σ H Q q => by
  obtain ⟨env, u, A, rel, w, o⟩ := q
  simp only [evL] at o
  exact o [] H ⟨w.refl, w, rfl⟩
theorem pa_cons' {e : Ex} {es : List Ex} {x : Expr} {xs : List Expr} (ha : PE X x (tE (gx X f) C wd nw call W e)) (hr : PA X xs (tL (gx X f) C wd nw call W es)) (hs : starless x = true) : PA X (x :: xs) (tL (gx X f) C wd nw call W (e :: es)) := by
  refine paImp (pa_cons ha hr (star_of hs)) fun σ H Q q => ?_
  obtain ⟨env, u, A, rel, w, o⟩ := q
  simp only [evL] at o
  have rel' : RelE (gx X f) C H A env σ (e.fv ++ Ex.fvs es) := rel
  refine ⟨env, u, A, rel'.left, w, o.bind.imp fun d u1 o1 v H1 po => ?_⟩
  refine ⟨env, u1, A, rel'.right.ext po.ext, po.wd, (o1.bind.up po.ext).imp fun ds u2 o2 vs H2 ps => ?_⟩
  refine o2 (v :: vs) H2 ⟨po.ext.trans ps.ext, ps.wd, v, vs, rfl, ps.ext.rp po.rp, ps.rp.mono fun a ha => ha.elim .inl fun n => .inr (po.ext.free a n)⟩
theorem pe_tup' {es : List Ex} {xs : List Expr} {k : Nat} {pos : Pos} (h : PA X xs (tL (gx X f) C wd nw call W es)) : PE X (.Tuple xs k pos) (tE (gx X f) C wd nw call W (.tup es)) := by
  refine peImp (pe_tup h) fun σ H Q q => ?_
  obtain ⟨env, u, A, rel, w, o⟩ := q
  simp only [evE] at o
  refine ⟨env, u, A, rel, w, o.bind.imp fun ds u1 o1 vs H1 po => ?_⟩
  split at o1
  · rename_i hl
    refine ⟨by rw [← po.rp.length]; exact Nat.le_trans hl big_le, fun p np => o1 _ _ ⟨po.ext.trans (po.wd.newX np), po.wd.newW np, ⟨p, vs, rfl, SqT.of upd_same, (po.wd.newX np).rps po.rp⟩, fun z => by cases z⟩⟩
  · exact o1.elim
theorem pe_lst' {es : List Ex} {xs : List Expr} {pos : Pos} (h : PA X xs (tL (gx X f) C wd nw call W es)) : PE X (.List xs pos) (tE (gx X f) C wd nw call W (.lst es)) := by
  refine peImp (pe_lst h) fun σ H Q q => ?_
  obtain ⟨env, u, A, rel, w, o⟩ := q
  simp only [evE] at o
  refine ⟨env, u, A, rel, w, o.bind.imp fun ds u1 o1 vs H1 po => ?_⟩
  split at o1
  · rename_i hl
    refine ⟨by rw [← po.rp.length]; exact Nat.le_trans hl big_le, fun p np => o1 _ _ ⟨po.ext.trans (po.wd.newX np), po.wd.newW np, ⟨p, vs, rfl, upd_same, .inr (po.ext.free p (NL.of np)), (ne_of_none po.wd.cup np).symm, (po.wd.newX np).rps po.rp⟩, fun _ _ _ p' e => ?_⟩⟩
    cases e
    exact po.ext.free p (NL.of np)
  · exact o1.elim
end
end
end Ev

/-! Operators, comparisons, tests. -/
namespace Ev
open PySem PySem.Spec PyProof.Rows L2 LamX
section
variable {p : PC} {f : Fx} {wd : Words} {nw : Str} {pr : List FD} {n : Nat} {X : Cx} {m : MC} {C : Addr} {W : WX} {call : Nat → List D → Cup → Re D}

theorem tE_bin {ex a b : Ex} {k : D → D → Cup → Re D} {r : R2} {σ : L2.St} {H : Hp} {Q : VK} (hE : ∀ env u, evE wd nw call ex env u = (evE wd nw call a env u).bind fun x u1 => (evE wd nw call b env u1).bind fun y u2 => k x y u2)
    (hfv : ex.fv = a.fv ++ b.fv) (q : tE (gx X f) C wd nw call W ex σ H Q)
    (h : ∀ A x y u2 v w H2, Rp (gx X f) C H2 (fun a => A a ∨ NL H a) x v → Rp (gx X f) C H2 (fun a => A a ∨ NL H a) y w → Ext C H H2 → Wd (gx X f) C H2 u2 →
      Out (gx X f) C W σ H2 (k x y u2) (fun d u' => ∀ v' H', Post (gx X f) C H A ex.fresh d u' v' H' → Q v' H') → r v w H2 Q) :
    tOp r (tE (gx X f) C wd nw call W a) (tE (gx X f) C wd nw call W b) σ H Q := by
  obtain ⟨env, u, A, rel, w, o⟩ := q
  rw [hE] at o
  rw [hfv] at rel
  refine ⟨env, u, A, rel.left, w, o.bind.imp fun x u1 o1 v H1 po => ?_⟩
  refine ⟨env, u1, A, rel.right.ext po.ext, po.wd, (o1.bind.up po.ext).imp fun y u2 o2 w2 H2 ps => ?_⟩
  exact h A x y u2 v w2 H2 (ps.ext.rp po.rp) (ps.rp.mono fun a ha => ha.elim .inl fun n => .inr (po.ext.free a n)) (po.ext.trans ps.ext) ps.wd (o2.up (po.ext.trans ps.ext))

def rB (K : PySem.W.Frag) : Operator → R2
  | .Add => fun x y H Q => rI0 (fun i j => .int (i + j)) x y H Q ∨ rCat x y H Q ∨ rCatA K x y H Q
  | .Sub => rI0 fun i j => .int (i - j)
  | .Mult => fun x y H Q => rI CMul (fun i j => .int (i * j)) x y H Q ∨ rI CMulW (fun i j => .int (i * j)) x y H Q ∨ rRep x y H Q
  | .FloorDiv => rI CDivW fun i j => .int (i / j)
  | .Mod => rI (fun _ j => 0 < j) fun i j => .int (i % j)
  | .Pow => rI CPow fun i j => .int (i ^ j.toNat)
  | _ => fun _ _ _ _ => False
theorem op_no {o : Value → Value → Sem Value} : OpR X o (fun _ _ _ _ => False) := fun _ _ _ _ _ _ _ _ _ _ _ _ h => h.elim
theorem op_B : ∀ o : Operator, OpR X (binaryOp o) (rB X.K o)
  | .Add => OpR.or op_add (OpR.or op_cat op_catA)
  | .Sub => op_sub
  | .Mult => OpR.or op_mul (OpR.or op_mulW op_rep)
  | .FloorDiv => op_fdivW
  | .Mod => op_mod
  | .Pow => op_pow
  | .MatMult => op_no
  | .Div => op_no
  | .LShift => op_no
  | .RShift => op_no
  | .BitOr => op_no
  | .BitXor => op_no
  | .BitAnd => op_no
theorem natAbs64 {i : Int} (h : i.natAbs < 18446744073709551616) : -(2 ^ 64) < i ∧ i < 2 ^ 64 := by omega
theorem val_bin {o : Operator} {x y d : D} {v w : V} {H H2 : Hp} {A : Addr → Prop} {u : Cup} {Q : VK} {fr : Bool} (e : binV o x y = some d) (hx : Rp (gx X f) C H2 (fun a => A a ∨ NL H a) x v) (hy : Rp (gx X f) C H2 (fun a => A a ∨ NL H a) y w)
    (hE : Ext C H H2) (hW : Wd (gx X f) C H2 u) (h : ∀ v' H', Post (gx X f) C H A fr d u v' H' → Q v' H') : rB X.K o v w H2 Q := by
  have fi : ∀ z : Int, d = .int z → Q (.int z) H2 := fun z ez => h _ _ ⟨hE, hW, by rw [ez]; rfl, fun _ ds ed p ep => by cases ep⟩
  unfold binV at e
  split at e
  · cases e; cases hx; cases hy
    exact .inl ⟨_, _, rfl, rfl, fi _ rfl⟩
  · cases e; cases hx; cases hy
    exact ⟨_, _, rfl, rfl, fi _ rfl⟩
  · split at e
    · rename_i i j hm
      cases e; cases hx; cases hy
      unfold mulOk at hm
      simp only [Bool.or_eq_true, decide_eq_true_eq] at hm
      rcases hm with (hm | hm) | hm
      · exact .inl ⟨_, _, rfl, rfl, .inl (natAbs64 hm), fi _ rfl⟩
      · exact .inl ⟨_, _, rfl, rfl, .inr (natAbs64 hm), fi _ rfl⟩
      · exact .inr (.inl ⟨_, _, rfl, rfl, hm, fi _ rfl⟩)
    · cases e
  · split at e
    · rename_i i j hm
      cases e; cases hx; cases hy
      exact ⟨_, _, rfl, rfl, hm, fi _ rfl⟩
    · cases e
  · split at e
    · rename_i i j hm
      cases e; cases hx; cases hy
      exact ⟨_, _, rfl, rfl, hm, fi _ rfl⟩
    · cases e
  · split at e
    · rename_i i j hm
      cases e; cases hx; cases hy
      exact ⟨_, _, rfl, rfl, ⟨hm.1, hm.2.1, by have := hm.2.2; omega⟩, fi _ rfl⟩
    · cases e
  · split at e
    · rename_i xs ys hm
      cases e
      obtain ⟨a, vs, rfl, h1, h2, h3, h4⟩ := hx
      obtain ⟨b, ws, rfl, k1, k2, k3, k4⟩ := hy
      have l1 := h4.length
      have l2 := k4.length
      refine .inr (.inl ⟨a, b, vs, ws, rfl, rfl, h1, k1, by have := big_le; omega, fun p np => h _ _ ⟨hE.trans (hW.newX np), hW.newW np, ⟨p, _, rfl, upd_same, .inr (hE.free p (NL.of np)), (ne_of_none hW.cup np).symm, (hW.newX np).rps (h4.app k4)⟩, fun _ _ _ p' e' => ?_⟩⟩)
      cases e'
      exact hE.free p (NL.of np)
    · cases e
  · split at e
    · rename_i xs ys hm
      cases e
      obtain ⟨a, vs, rfl, h1, h4⟩ := hx
      obtain ⟨b, ws, rfl, k1, k4⟩ := hy
      have l1 := h4.length
      have l2 := k4.length
      refine .inr (.inr ⟨a, b, vs, ws, rfl, rfl, h1, k1, by have := big_le; omega, fun ev => ?_, fun _ ew => ?_, fun _ _ p np => ?_⟩)
      · subst ev
        have ex : xs = [] := List.length_eq_zero_iff.mp l1
        exact h _ _ ⟨hE, hW, by rw [ex]; exact ⟨b, ws, rfl, k1, k4⟩, fun _ _ ed => by cases ed⟩
      · subst ew
        have ey : ys = [] := List.length_eq_zero_iff.mp l2
        exact h _ _ ⟨hE, hW, by rw [ey, List.append_nil]; exact ⟨a, vs, rfl, h1, h4⟩, fun _ _ ed => by cases ed⟩
      · exact h _ _ ⟨hE.trans (hW.newX np), hW.newW np, ⟨p, _, rfl, SqT.of upd_same, (hW.newX np).rps (h4.app k4)⟩, fun _ _ ed => by cases ed⟩
    · cases e
  · split at e
    · rename_i xs k hm
      cases e; cases hy
      obtain ⟨a, vs, rfl, h1, h2, h3, h4⟩ := hx
      have l1 := h4.length
      obtain ⟨m1, m2, m3⟩ := hm
      refine .inr (.inr ⟨a, k, vs, rfl, rfl, h1, by omega, by omega, by rw [← l1]; exact Nat.le_trans m3 big_le, fun p np => h _ _ ⟨hE.trans (hW.newX np), hW.newW np, ⟨p, _, rfl, upd_same, .inr (hE.free p (NL.of np)), (ne_of_none hW.cup np).symm, (hW.newX np).rps (h4.rep _)⟩, fun _ _ _ p' e' => ?_⟩⟩)
      cases e'
      exact hE.free p (NL.of np)
    · cases e
  · cases e
theorem pe_bin' {o : Operator} {a b : Ex} {x y : Expr} {pos : Pos} (ha : PE X x (tE (gx X f) C wd nw call W a)) (hb : PE X y (tE (gx X f) C wd nw call W b)) : PE X (.BinOp x o y pos) (tE (gx X f) C wd nw call W (.bin o a b)) := by
  refine peImp (pe_op (op_B o) ha hb) fun σ H Q q => tE_bin (k := fun x y u2 => lift (binV o x y) u2) (fun env u => by rw [evE]) (by rw [Ex.fv]) q fun A x y u2 v w H2 hx hy hE hW h => ?_
  cases e : binV o x y with
  | none =>
    rw [e] at h
    exact h.elim
  | some d =>
    rw [e] at h
    exact val_bin e hx hy hE hW h

/-! ### comparisons -/
def rC (K : PySem.W.Frag) : CmpOp → R2
  | .Eq => rEqD K
  | .NotEq => rNeD K
  | .Lt => rI0 fun i j => .bl (decide (i < j))
  | .LtE => rI0 fun i j => .bl (decide (i ≤ j))
  | .Gt => rI0 fun i j => .bl (decide (j < i))
  | .GtE => rI0 fun i j => .bl (decide (j ≤ i))
  | .In => rIn K false
  | .NotIn => rIn K true
  | .Is => fun x y H Q => y = .non ∧ Q (.bl (decide (x = .non))) H
  | .IsNot => fun x y H Q => y = .non ∧ Q (.bl (!decide (x = .non))) H
theorem op_C (hr : Room n X.A) : ∀ o : CmpOp, OpR X (compareOp o) (rC X.K o)
  | .Eq => op_eqD hr.units
  | .NotEq => op_neD hr.units
  | .Lt => op_lt
  | .LtE => op_le
  | .Gt => op_gt
  | .GtE => op_ge
  | .In => op_in_seq
  | .NotIn => op_notIn_seq
  | .Is => op_isN
  | .IsNot => op_notN
theorem D.eq_some {x y : D} {b : Bool} (e : D.eq x y = some b) : ∃ q r, x.toP = some q ∧ y.toP = some r ∧ SeqAt.shaped q = true ∧ SeqAt.shaped r = true ∧ b = PyData.eqv q r := by
  unfold D.eq at e
  split at e
  · rename_i q r e1 e2
    split at e
    · rename_i hs
      rw [Bool.and_eq_true] at hs
      exact ⟨q, r, e1, e2, hs.1, hs.2, (Option.some.inj e).symm⟩
    · cases e
  · cases e
theorem inS_some {x : D} {ys : List D} {b : Bool} (e : inS x ys = some b) : ∃ v vs, x.sc = some v ∧ scs ys = some vs ∧ b = inV v vs := by
  unfold inS at e
  split at e
  · rename_i q r e1 e2
    exact ⟨q, r, e1, e2, (Option.some.inj e).symm⟩
  · cases e
theorem non_dec {g : G} {H : Hp} {A : Addr → Prop} {x : D} {v : V} (h : Rp g C H A x v) : decide (v = V.non) = x.isNon := by
  cases x with
  | non => cases h; rfl
  | bl b => cases h; rfl
  | int b => cases h; rfl
  | str b => cases h; rfl
  | tup b => obtain ⟨_, _, rfl, _⟩ := h; rfl
  | lst b => obtain ⟨_, _, rfl, _⟩ := h; rfl
  | fn b => obtain ⟨_, rfl⟩ := h; rfl
  | cup => cases h; rfl
  | exc k => obtain ⟨rfl, _⟩ := h; rfl
/-- a comparison's value is a bool -/
theorem cmp_bl {o : CmpOp} {x y d : D} (e : cmpV o x y = some d) : ∃ b, d = .bl b := by
  cases o <;> simp only [cmpV] at e
  all_goals first
    | (obtain ⟨b, _, rfl⟩ := Option.map_eq_some_iff.mp e; exact ⟨_, rfl⟩)
    | (split at e <;> first | cases e; exact ⟨_, rfl⟩ | cases e | (obtain ⟨b, _, rfl⟩ := Option.map_eq_some_iff.mp e; exact ⟨_, rfl⟩))
theorem val_cmp {o : CmpOp} {x y : D} {b : Bool} {v w : V} {H2 : Hp} {A : Addr → Prop} {Q : VK} (e : cmpV o x y = some (.bl b)) (hx : Rp (gx X f) C H2 A x v) (hy : Rp (gx X f) C H2 A y w) (h : Q (.bl b) H2) : rC X.K o v w H2 Q := by
  cases o <;> simp only [cmpV] at e
  · obtain ⟨b', e1, e2⟩ := Option.map_eq_some_iff.mp e
    obtain ⟨q, r, h1, h2, h3, h4, h5⟩ := D.eq_some e1
    cases e2
    exact ⟨q, r, hx.dp _ _ _ h1, hy.dp _ _ _ h2, h3, h4, by rw [← h5]; exact h⟩
  · obtain ⟨b', e1, e2⟩ := Option.map_eq_some_iff.mp e
    obtain ⟨q, r, h1, h2, h3, h4, h5⟩ := D.eq_some e1
    cases e2
    exact ⟨q, r, hx.dp _ _ _ h1, hy.dp _ _ _ h2, h3, h4, by rw [← h5]; exact h⟩
  · split at e
    · cases e; cases hx; cases hy
      exact ⟨_, _, rfl, rfl, h⟩
    · cases e
  · split at e
    · cases e; cases hx; cases hy
      exact ⟨_, _, rfl, rfl, h⟩
    · cases e
  · split at e
    · cases e; cases hx; cases hy
      exact ⟨_, _, rfl, rfl, h⟩
    · cases e
  · split at e
    · cases e; cases hx; cases hy
      exact ⟨_, _, rfl, rfl, h⟩
    · cases e
  · split at e
    · cases e
      cases hy
      exact ⟨rfl, by rw [non_dec hx]; exact h⟩
    · cases e
  · split at e
    · cases e
      cases hy
      exact ⟨rfl, by rw [non_dec hx]; exact h⟩
    · cases e
  · split at e
    · obtain ⟨b', e1, e2⟩ := Option.map_eq_some_iff.mp e
      obtain ⟨q, r, h1, h2, h3⟩ := inS_some e1
      cases e2
      obtain ⟨a, vs, rfl, k1, k2⟩ := hy
      obtain ⟨s1, s2⟩ := hx.sc h1
      obtain ⟨s3, s4⟩ := k2.scs h2
      subst s1; subst s3
      exact ⟨a, _, rfl, .inr k1, s2, s4, by show Q (.bl (inV v vs)) H2; rw [← h3]; exact h⟩
    · obtain ⟨b', e1, e2⟩ := Option.map_eq_some_iff.mp e
      obtain ⟨q, r, h1, h2, h3⟩ := inS_some e1
      cases e2
      obtain ⟨a, vs, rfl, k1, _, _, k2⟩ := hy
      obtain ⟨s1, s2⟩ := hx.sc h1
      obtain ⟨s3, s4⟩ := k2.scs h2
      subst s1; subst s3
      exact ⟨a, _, rfl, .inl (SqL.of k1), s2, s4, by show Q (.bl (inV v vs)) H2; rw [← h3]; exact h⟩
    · cases e
  · split at e
    · obtain ⟨b', e1, e2⟩ := Option.map_eq_some_iff.mp e
      obtain ⟨q, r, h1, h2, h3⟩ := inS_some e1
      cases e2
      obtain ⟨a, vs, rfl, k1, k2⟩ := hy
      obtain ⟨s1, s2⟩ := hx.sc h1
      obtain ⟨s3, s4⟩ := k2.scs h2
      subst s1; subst s3
      exact ⟨a, _, rfl, .inr k1, s2, s4, by show Q (.bl (!inV v vs)) H2; rw [← h3]; exact h⟩
    · obtain ⟨b', e1, e2⟩ := Option.map_eq_some_iff.mp e
      obtain ⟨q, r, h1, h2, h3⟩ := inS_some e1
      cases e2
      obtain ⟨a, vs, rfl, k1, _, _, k2⟩ := hy
      obtain ⟨s1, s2⟩ := hx.sc h1
      obtain ⟨s3, s4⟩ := k2.scs h2
      subst s1; subst s3
      exact ⟨a, _, rfl, .inl (SqL.of k1), s2, s4, by show Q (.bl (!inV v vs)) H2; rw [← h3]; exact h⟩
    · cases e
/-- the reading of a comparison, for a value and for a test -/
theorem tE_cmp {o : CmpOp} {a b : Ex} {σ : L2.St} {H : Hp} {Q : VK} (q : tE (gx X f) C wd nw call W (.cmp o a b) σ H Q) : tOp (rC X.K o) (tE (gx X f) C wd nw call W a) (tE (gx X f) C wd nw call W b) σ H Q := by
  refine tE_bin (k := fun x y u2 => lift (cmpV o x y) u2) (fun env u => by rw [evE]) (by rw [Ex.fv]) q fun A x y u2 v w H2 hx hy hE hW h => ?_
  cases e : cmpV o x y with
  | none =>
    rw [e] at h
    exact h.elim
  | some d =>
    rw [e] at h
    obtain ⟨b, rfl⟩ := cmp_bl e
    exact val_cmp e hx hy (h _ _ ⟨hE, hW, rfl, fun _ _ ed => by cases ed⟩)
theorem pe_cmp' (hr : Room n X.A) {o : CmpOp} {a b : Ex} {x y : Expr} {pos : Pos} (ha : PE X x (tE (gx X f) C wd nw call W a)) (hb : PE X y (tE (gx X f) C wd nw call W b)) (hs : starless y = true) : PE X (.Compare x [o] [y] pos) (tE (gx X f) C wd nw call W (.cmp o a b)) :=
  peImp (pe_cmpR (op_C hr o) ha hb (nobeh hs)) fun σ H Q q => tE_cmp q
/-- a value's reading gives the test's: the value is a bool -/
theorem tT_tE {e : Ex} {σ : L2.St} {H : Hp} {Q : Bool → Hp → Prop} (q : tT (gx X f) C wd nw call W e σ H Q) : tE (gx X f) C wd nw call W e σ H fun x H' => ∃ k, x = .bl k ∧ Q k H' := by
  obtain ⟨env, u, A, rel, w, o⟩ := q
  refine ⟨env, u, A, rel, w, o.imp fun d u1 ⟨b, eb, h⟩ v H' po => ?_⟩
  subst eb
  have r : v = .bl b := po.rp
  exact ⟨b, r, h H' po.ext po.wd⟩
theorem pt_cmp' (hr : Room n X.A) {o : CmpOp} {a b : Ex} {x y : Expr} {pos : Pos} (ha : PE X x (tE (gx X f) C wd nw call W a)) (hb : PE X y (tE (gx X f) C wd nw call W b)) (hs : starless y = true) : PT X (.Compare x [o] [y] pos) (tT (gx X f) C wd nw call W (.cmp o a b)) :=
  ptImp (pt_cmpR (op_C hr o) ha hb (nobeh hs)) fun σ H Q q => tE_cmp (tT_tE q)
theorem tE_ch {o o2 : CmpOp} {a b c : Ex} {σ : L2.St} {H : Hp} {Q : VK} (q : tE (gx X f) C wd nw call W (.ch o o2 a b c) σ H Q) : tChain (rC X.K o) (rC X.K o2) (tE (gx X f) C wd nw call W a) (tE (gx X f) C wd nw call W b) (tE (gx X f) C wd nw call W c) σ H Q := by
  obtain ⟨env, u, A, rel, w, ot⟩ := q
  rw [evE] at ot
  have rel' : RelE (gx X f) C H A env σ (a.fv ++ (b.fv ++ c.fv)) := rel
  refine ⟨env, u, A, rel'.left, w, ot.bind.imp fun x u1 o1 v H1 po => ?_⟩
  refine ⟨env, u1, A, rel'.right.left.ext po.ext, po.wd, (o1.bind.up po.ext).imp fun y u2 o2' w2 H2 ps => ?_⟩
  have E2 := po.ext.trans ps.ext
  have rx := ps.ext.rp po.rp
  have ry := ps.rp.mono (A' := fun a => A a ∨ NL H a) fun a ha => ha.elim .inl fun n => .inr (po.ext.free a n)
  cases e : cmpV o x y with
  | none =>
    simp only [e] at o2'
    exact o2'.elim
  | some d =>
    obtain ⟨k, rfl⟩ := cmp_bl e
    refine val_cmp e rx ry ⟨k, rfl, ?_⟩
    cases k with
    | false =>
      simp only [e] at o2'
      rw [if_neg Bool.false_ne_true]
      exact o2' _ _ ⟨E2, ps.wd, rfl, fun _ _ ed => by cases ed⟩
    | true =>
      simp only [e] at o2'
      rw [if_pos rfl]
      refine ⟨env, u2, A, (rel'.right.right.ext E2), ps.wd, (o2'.bind.up E2).imp fun z u3 o3 w3 H3 pt => ?_⟩
      cases e2 : cmpV o2 y z with
      | none =>
        rw [e2] at o3
        exact o3.elim
      | some d2 =>
        rw [e2] at o3
        obtain ⟨k2, rfl⟩ := cmp_bl e2
        exact val_cmp e2 (pt.ext.rp ry) (pt.rp.mono fun a ha => ha.elim .inl fun n => .inr (E2.free a n)) (o3 _ _ ⟨E2.trans pt.ext, pt.wd, rfl, fun _ _ ed => by cases ed⟩)
theorem lastM {o o2 : CmpOp} {b c : Expr} (h : starless c = true) : lastMarks [o, o2] [b, c] = false := by
  show behindInMarks o2 c = false
  exact nobeh h
theorem pe_ch' (hr : Room n X.A) {o o2 : CmpOp} {a b c : Ex} {x y z : Expr} {pos : Pos} (ha : PE X x (tE (gx X f) C wd nw call W a)) (hb : PE X y (tE (gx X f) C wd nw call W b)) (hc : PE X z (tE (gx X f) C wd nw call W c)) (hs : starless z = true) : PE X (.Compare x [o, o2] [y, z] pos) (tE (gx X f) C wd nw call W (.ch o o2 a b c)) :=
  peImp (pe_chain (op_C hr o) (op_C hr o2) ha hb hc (lastM hs)) fun σ H Q q => tE_ch q
theorem pt_ch' (hr : Room n X.A) {o o2 : CmpOp} {a b c : Ex} {x y z : Expr} {pos : Pos} (ha : PE X x (tE (gx X f) C wd nw call W a)) (hb : PE X y (tE (gx X f) C wd nw call W b)) (hc : PE X z (tE (gx X f) C wd nw call W c)) (hs : starless z = true) : PT X (.Compare x [o, o2] [y, z] pos) (tT (gx X f) C wd nw call W (.ch o o2 a b c)) :=
  ptImp (pt_chain (op_C hr o) (op_C hr o2) ha hb hc (lastM hs)) fun σ H Q q => tE_ch (tT_tE q)
end
end Ev

/-! Truth, conditional expressions, subscripts, calls. -/
namespace Ev
open PySem PySem.Spec PyProof.Rows L2 LamX
section
variable {p : PC} {f : Fx} {wd : Words} {nw : Str} {pr : List FD} {n : Nat} {X : Cx} {m : MC} {C : Addr} {W : WX} {call : Nat → List D → Cup → Re D}

theorem bl_of {A : Addr → Prop} {H : Hp} {b : Bool} {v : V} (h : Rp (gx X f) C H A (.bl b) v) : v = .bl b := h

/-! ### not, minus -/
theorem pe_not' {a : Ex} {x : Expr} {pos : Pos} (ha : PE X x (tE (gx X f) C wd nw call W a)) : PE X (.UnaryOp .Not x pos) (tE (gx X f) C wd nw call W (.not a)) := by
  refine peImp (pe_not ha) fun σ H Q q => ?_
  obtain ⟨env, u, A, rel, w, o⟩ := q
  rw [evE] at o
  refine ⟨env, u, A, rel, w, o.bind.imp fun d u1 o1 v H1 po => ?_⟩
  cases d with
  | bl b =>
    have e := bl_of po.rp
    subst e
    exact ⟨b, rfl, o1 _ _ ⟨po.ext, po.wd, rfl, fun _ _ ed => by cases ed⟩⟩
  | _ => exact o1.elim
theorem pe_neg' {a : Ex} {x : Expr} {pos : Pos} (ha : PE X x (tE (gx X f) C wd nw call W a)) : PE X (.UnaryOp .USub x pos) (tE (gx X f) C wd nw call W (.neg a)) := by
  refine peImp (pe_un un_neg ha) fun σ H Q q => ?_
  obtain ⟨env, u, A, rel, w, o⟩ := q
  rw [evE] at o
  refine ⟨env, u, A, rel, w, o.bind.imp fun d u1 o1 v H1 po => ?_⟩
  cases d with
  | int b =>
    have e : v = .int b := po.rp
    subst e
    exact ⟨b, rfl, o1 _ _ ⟨po.ext, po.wd, rfl, fun _ _ ed => by cases ed⟩⟩
  | _ => exact o1.elim
theorem pt_not' {a : Ex} {x : Expr} {pos : Pos} (ha : PT X x (tT (gx X f) C wd nw call W a)) : PT X (.UnaryOp .Not x pos) (tT (gx X f) C wd nw call W (.not a)) := by
  refine ptImp (pt_not ha) fun σ H Q q => ?_
  obtain ⟨env, u, A, rel, w, o⟩ := q
  rw [evE] at o
  refine ⟨env, u, A, rel, w, o.bind.imp fun d u1 o1 => ?_⟩
  cases d with
  | bl b =>
    obtain ⟨b', e, h⟩ := o1
    cases e
    exact ⟨b, rfl, h⟩
  | _ => exact o1.elim

/-! ### and, or -/
def tTB (g : G) (C : Addr) (wd : Words) (nw : Str) (call : Nat → List D → Cup → Re D) (W : WX) (o : BoolOp) (es : List Ex) : TT := fun σ H Q => ∃ env u A, RelE g C H A env σ (Ex.fvs es) ∧ Wd g C H u ∧ Out g C W σ H (evB wd nw call o es env u) fun d u' => ∃ b, d = .bl b ∧ ∀ H', Ext C H H' → Wd g C H' u' → Q b H'
theorem pe_and1' {a : Ex} {x : Expr} {pos : Pos} (ha : PE X x (tE (gx X f) C wd nw call W a)) : PE X (.BoolOp .And [x] pos) (tB (gx X f) C wd nw call W .And [a]) := by
  refine peImp (pe_one ha) fun σ H Q q => ?_
  obtain ⟨env, u, A, rel, w, o⟩ := q
  rw [evB] at o
  refine ⟨env, u, A, rel.left, w, o.bind.imp fun d u1 o1 v H1 po => ?_⟩
  cases d with
  | bl b =>
    have e := bl_of po.rp
    subst e
    cases b with
    | true =>
      simp only [evB] at o1
      exact o1 _ _ ⟨po.ext, po.wd, rfl, fun z => by cases z⟩
    | false => exact o1 _ _ ⟨po.ext, po.wd, rfl, fun z => by cases z⟩
  | _ => exact o1.elim
theorem pe_or1' {a : Ex} {x : Expr} {pos : Pos} (ha : PE X x (tE (gx X f) C wd nw call W a)) : PE X (.BoolOp .Or [x] pos) (tB (gx X f) C wd nw call W .Or [a]) := by
  refine peImp (pe_one ha) fun σ H Q q => ?_
  obtain ⟨env, u, A, rel, w, o⟩ := q
  rw [evB] at o
  refine ⟨env, u, A, rel.left, w, o.bind.imp fun d u1 o1 v H1 po => ?_⟩
  cases d with
  | bl b =>
    have e := bl_of po.rp
    subst e
    cases b with
    | true => exact o1 _ _ ⟨po.ext, po.wd, rfl, fun z => by cases z⟩
    | false =>
      simp only [evB] at o1
      exact o1 _ _ ⟨po.ext, po.wd, rfl, fun z => by cases z⟩
  | _ => exact o1.elim
theorem pe_and' {a : Ex} {es : List Ex} {x y : Expr} {ys : List Expr} {pos : Pos} (ha : PE X x (tE (gx X f) C wd nw call W a)) (hb : PE X (.BoolOp .And (y :: ys) pos) (tB (gx X f) C wd nw call W .And es)) : PE X (.BoolOp .And (x :: y :: ys) pos) (tB (gx X f) C wd nw call W .And (a :: es)) := by
  refine peImp (pe_and ha hb) fun σ H Q q => ?_
  obtain ⟨env, u, A, rel, w, o⟩ := q
  rw [evB] at o
  have rel' : RelE (gx X f) C H A env σ (a.fv ++ Ex.fvs es) := rel
  refine ⟨env, u, A, rel'.left, w, o.bind.imp fun d u1 o1 v H1 po => ?_⟩
  cases d with
  | bl b =>
    have e := bl_of po.rp
    subst e
    refine ⟨b, rfl, ?_⟩
    cases b with
    | true =>
      rw [if_pos rfl]
      exact ⟨env, u1, A, rel'.right.ext po.ext, po.wd, (Out.up po.ext o1).imp fun d u2 o2 v2 H2 ps => o2 _ _ (Posts.toPost (A0 := A) po.ext ps)⟩
    | false =>
      rw [if_neg Bool.false_ne_true]
      exact o1 _ _ ⟨po.ext, po.wd, rfl, fun z => by cases z⟩
  | _ => exact o1.elim
theorem pe_or' {a : Ex} {es : List Ex} {x y : Expr} {ys : List Expr} {pos : Pos} (ha : PE X x (tE (gx X f) C wd nw call W a)) (hb : PE X (.BoolOp .Or (y :: ys) pos) (tB (gx X f) C wd nw call W .Or es)) : PE X (.BoolOp .Or (x :: y :: ys) pos) (tB (gx X f) C wd nw call W .Or (a :: es)) := by
  refine peImp (pe_or ha hb) fun σ H Q q => ?_
  obtain ⟨env, u, A, rel, w, o⟩ := q
  rw [evB] at o
  have rel' : RelE (gx X f) C H A env σ (a.fv ++ Ex.fvs es) := rel
  refine ⟨env, u, A, rel'.left, w, o.bind.imp fun d u1 o1 v H1 po => ?_⟩
  cases d with
  | bl b =>
    have e := bl_of po.rp
    subst e
    refine ⟨b, rfl, ?_⟩
    cases b with
    | true =>
      rw [if_pos rfl]
      exact o1 _ _ ⟨po.ext, po.wd, rfl, fun z => by cases z⟩
    | false =>
      rw [if_neg Bool.false_ne_true]
      exact ⟨env, u1, A, rel'.right.ext po.ext, po.wd, (Out.up po.ext o1).imp fun d u2 o2 v2 H2 ps => o2 _ _ (Posts.toPost (A0 := A) po.ext ps)⟩
  | _ => exact o1.elim
theorem pw_and1' {a : Ex} {x : Expr} {pos : Pos} (ha : PT X x (tT (gx X f) C wd nw call W a)) : PW X (.BoolOp .And [x] pos) (tTB (gx X f) C wd nw call W .And [a]) := by
  refine ⟨fun wh pins s σ H Q I q => (pw_and1 ha).run wh pins s σ H Q I ?_⟩
  obtain ⟨env, u, A, rel, w, o⟩ := q
  rw [evB] at o
  refine ⟨env, u, A, rel.left, w, o.bind.imp fun d u1 o1 => ?_⟩
  cases d with
  | bl b => cases b with
    | true => (simp only [evB] at o1; exact o1)
    | false => exact o1
  | _ => exact o1.elim
theorem pw_or1' {a : Ex} {x : Expr} {pos : Pos} (ha : PT X x (tT (gx X f) C wd nw call W a)) : PW X (.BoolOp .Or [x] pos) (tTB (gx X f) C wd nw call W .Or [a]) := by
  refine ⟨fun wh pins s σ H Q I q => (pw_or1 ha).run wh pins s σ H Q I ?_⟩
  obtain ⟨env, u, A, rel, w, o⟩ := q
  rw [evB] at o
  refine ⟨env, u, A, rel.left, w, o.bind.imp fun d u1 o1 => ?_⟩
  cases d with
  | bl b => cases b with
    | true => exact o1
    | false => (simp only [evB] at o1; exact o1)
  | _ => exact o1.elim
theorem pw_and' {a : Ex} {es : List Ex} {x y : Expr} {ys : List Expr} {pos : Pos} (ha : PT X x (tT (gx X f) C wd nw call W a)) (hb : PW X (.BoolOp .And (y :: ys) pos) (tTB (gx X f) C wd nw call W .And es)) : PW X (.BoolOp .And (x :: y :: ys) pos) (tTB (gx X f) C wd nw call W .And (a :: es)) := by
  refine ⟨fun wh pins s σ H Q I q => (pw_and ha hb).run wh pins s σ H Q I ?_⟩
  obtain ⟨env, u, A, rel, w, o⟩ := q
  rw [evB] at o
  have rel' : RelE (gx X f) C H A env σ (a.fv ++ Ex.fvs es) := rel
  refine ⟨env, u, A, rel'.left, w, o.bind.imp fun d u1 o1 => ?_⟩
  cases d with
  | bl b =>
    refine ⟨b, rfl, fun H1 e1 w1 => ?_⟩
    cases b with
    | true =>
      rw [if_pos rfl]
      exact ⟨env, u1, A, rel'.right.ext e1, w1, (Out.up e1 o1).imp fun d u2 ⟨b2, e2, o2⟩ => ⟨b2, e2, fun H' x' w' => o2 H' (e1.trans x') w'⟩⟩
    | false =>
      rw [if_neg Bool.false_ne_true]
      obtain ⟨b2, e2, o2⟩ := o1
      cases e2
      exact o2 H1 e1 w1
  | _ => exact o1.elim
theorem pw_or' {a : Ex} {es : List Ex} {x y : Expr} {ys : List Expr} {pos : Pos} (ha : PT X x (tT (gx X f) C wd nw call W a)) (hb : PW X (.BoolOp .Or (y :: ys) pos) (tTB (gx X f) C wd nw call W .Or es)) : PW X (.BoolOp .Or (x :: y :: ys) pos) (tTB (gx X f) C wd nw call W .Or (a :: es)) := by
  refine ⟨fun wh pins s σ H Q I q => (pw_or ha hb).run wh pins s σ H Q I ?_⟩
  obtain ⟨env, u, A, rel, w, o⟩ := q
  rw [evB] at o
  have rel' : RelE (gx X f) C H A env σ (a.fv ++ Ex.fvs es) := rel
  refine ⟨env, u, A, rel'.left, w, o.bind.imp fun d u1 o1 => ?_⟩
  cases d with
  | bl b =>
    refine ⟨b, rfl, fun H1 e1 w1 => ?_⟩
    cases b with
    | true =>
      rw [if_pos rfl]
      obtain ⟨b2, e2, o2⟩ := o1
      cases e2
      exact o2 H1 e1 w1
    | false =>
      rw [if_neg Bool.false_ne_true]
      exact ⟨env, u1, A, rel'.right.ext e1, w1, (Out.up e1 o1).imp fun d u2 ⟨b2, e2, o2⟩ => ⟨b2, e2, fun H' x' w' => o2 H' (e1.trans x') w'⟩⟩
  | _ => exact o1.elim
/-- whole lists -/
theorem pe_bops {o : BoolOp} {pos : Pos} : ∀ {es : List Ex} {xs : List Expr}, xs ≠ [] → Paired (fun e x => PE X x (tE (gx X f) C wd nw call W e)) es xs → PE X (.BoolOp o xs pos) (tB (gx X f) C wd nw call W o es)
  | _, _, h, .nil => absurd rfl h
  | _, _, _, .cons h .nil => by
    cases o
    · exact pe_and1' h
    · exact pe_or1' h
  | _, _, _, .cons h (.cons h2 r) => by
    have ih := pe_bops (o := o) (pos := pos) (by simp) (Paired.cons h2 r)
    cases o
    · exact pe_and' h ih
    · exact pe_or' h ih
theorem pw_bops {o : BoolOp} {pos : Pos} : ∀ {es : List Ex} {xs : List Expr}, xs ≠ [] → Paired (fun e x => PT X x (tT (gx X f) C wd nw call W e)) es xs → PW X (.BoolOp o xs pos) (tTB (gx X f) C wd nw call W o es)
  | _, _, h, .nil => absurd rfl h
  | _, _, _, .cons h .nil => by
    cases o
    · exact pw_and1' h
    · exact pw_or1' h
  | _, _, _, .cons h (.cons h2 r) => by
    have ih := pw_bops (o := o) (pos := pos) (by simp) (Paired.cons h2 r)
    cases o
    · exact pw_and' h ih
    · exact pw_or' h ih
theorem pe_bop' {o : BoolOp} {pos : Pos} {es : List Ex} {xs : List Expr} (h : xs ≠ []) (hp : Paired (fun e x => PE X x (tE (gx X f) C wd nw call W e)) es xs) : PE X (.BoolOp o xs pos) (tE (gx X f) C wd nw call W (.bop o es)) :=
  peImp (pe_bops h hp) fun σ H Q q => by
    obtain ⟨env, u, A, rel, w, o⟩ := q
    rw [evE] at o
    exact ⟨env, u, A, rel, w, o⟩
theorem pt_bop' {o : BoolOp} {pos : Pos} {es : List Ex} {xs : List Expr} (h : xs ≠ []) (hp : Paired (fun e x => PT X x (tT (gx X f) C wd nw call W e)) es xs) : PT X (.BoolOp o xs pos) (tT (gx X f) C wd nw call W (.bop o es)) :=
  ptImp (pw_bops h hp).pt fun σ H Q q => by
    obtain ⟨env, u, A, rel, w, o⟩ := q
    rw [evE] at o
    exact ⟨env, u, A, rel, w, o⟩

/-! ### a if c else b -/
theorem pe_ite' {c a b : Ex} {z x y : Expr} {pos : Pos} (hc : PT X z (tT (gx X f) C wd nw call W c)) (ha : PE X x (tE (gx X f) C wd nw call W a)) (hb : PE X y (tE (gx X f) C wd nw call W b)) : PE X (.IfExp z x y pos) (tE (gx X f) C wd nw call W (.ite c a b)) := by
  refine peImp (pe_ifExp hc ha hb) fun σ H Q q => ?_
  obtain ⟨env, u, A, rel, w, o⟩ := q
  rw [evE] at o
  have rel' : RelE (gx X f) C H A env σ (c.fv ++ (a.fv ++ b.fv)) := rel
  refine ⟨env, u, A, rel'.left, w, o.bind.imp fun d u1 o1 => ?_⟩
  cases d with
  | bl k =>
    refine ⟨k, rfl, fun H1 e1 w1 => ?_⟩
    cases k with
    | true =>
      rw [if_pos rfl]
      exact ⟨env, u1, A, rel'.right.left.ext e1, w1, (Out.up e1 o1).imp fun d u2 o2 v H' po => o2 _ _ ⟨e1.trans po.ext, po.wd, po.rp.mono fun a ha => ha.elim .inl fun n => .inr (e1.free a n), fun z => by cases z⟩⟩
    | false =>
      rw [if_neg Bool.false_ne_true]
      exact ⟨env, u1, A, rel'.right.right.ext e1, w1, (Out.up e1 o1).imp fun d u2 o2 v H' po => o2 _ _ ⟨e1.trans po.ext, po.wd, po.rp.mono fun a ha => ha.elim .inl fun n => .inr (e1.free a n), fun z => by cases z⟩⟩
  | _ => exact o1.elim
theorem pt_ifExp' {c a b : Expr} {pos : Pos} {tc ta tb : TT} (hc : PT X c tc) (ha : PT X a ta) (hb : PT X b tb) : PT X (.IfExp c a b pos) (fun σ H Q => tc σ H fun k H1 => if k = true then ta σ H1 Q else tb σ H1 Q) := by
  refine ⟨fun pins s σ H Q I h => ?_⟩
  refine isTrue_IfExp (thn (hc.run pins s σ H _ I h) fun d s1 ⟨H1, I1, q1⟩ => ?_)
  cases d with
  | true => exact ha.run pins s1 σ H1 Q I1 q1
  | false => exact hb.run pins s1 σ H1 Q I1 q1
theorem pt_ite' {c a b : Ex} {z x y : Expr} {pos : Pos} (hc : PT X z (tT (gx X f) C wd nw call W c)) (ha : PT X x (tT (gx X f) C wd nw call W a)) (hb : PT X y (tT (gx X f) C wd nw call W b)) : PT X (.IfExp z x y pos) (tT (gx X f) C wd nw call W (.ite c a b)) := by
  refine ptImp (pt_ifExp' hc ha hb) fun σ H Q q => ?_
  obtain ⟨env, u, A, rel, w, o⟩ := q
  rw [evE] at o
  have rel' : RelE (gx X f) C H A env σ (c.fv ++ (a.fv ++ b.fv)) := rel
  refine ⟨env, u, A, rel'.left, w, o.bind.imp fun d u1 o1 => ?_⟩
  cases d with
  | bl k =>
    refine ⟨k, rfl, fun H1 e1 w1 => ?_⟩
    cases k with
    | true =>
      rw [if_pos rfl]
      exact ⟨env, u1, A, rel'.right.left.ext e1, w1, (Out.up e1 o1).imp fun d u2 ⟨b2, e2, o2⟩ => ⟨b2, e2, fun H' x' w' => o2 H' (e1.trans x') w'⟩⟩
    | false =>
      rw [if_neg Bool.false_ne_true]
      exact ⟨env, u1, A, rel'.right.right.ext e1, w1, (Out.up e1 o1).imp fun d u2 ⟨b2, e2, o2⟩ => ⟨b2, e2, fun H' x' w' => o2 H' (e1.trans x') w'⟩⟩
  | _ => exact o1.elim

/-! ### subscripts -/
theorem Rps.at {H : Hp} {A : Addr → Prop} {ds : List D} {vs : List V} {i : Int} {d : D} (h : Rps (gx X f) C H A ds vs) (e : atI ds i = some d) : ∃ v, atI vs i = some v ∧ Rp (gx X f) C H A d v := by
  unfold atI at e ⊢
  rw [← h.length]
  cases k : ixN ds.length i with
  | none =>
    rw [k] at e
    cases e
  | some j =>
    rw [k] at e
    exact h.get e
theorem pe_ix' {a b : Ex} {x y : Expr} {pos : Pos} (ha : PE X x (tE (gx X f) C wd nw call W a)) (hb : PE X y (tE (gx X f) C wd nw call W b)) (hs : starless y = true) : PE X (.Subscript x y pos) (tE (gx X f) C wd nw call W (.ix a b)) := by
  refine peImp (pe_ix ix_seq ha hb (plainIx_of hs)) fun σ H Q q => tE_bin (k := ixR) (fun env u => by rw [evE]) (by rw [Ex.fv]) q fun A x y u2 v w H2 hx hy hE hW h => ?_
  have go : ∀ d, (ixV x y = some d) → Out (gx X f) C W σ H2 (.ok d u2 : Re D) (fun d u' => ∀ v' H', Post (gx X f) C H A (Ex.ix a b).fresh d u' v' H' → Q v' H') → rIx X.K v w H2 Q := fun d ed hh => by
    unfold ixV at ed
    split at ed
    · cases hy
      split at ed
      · obtain ⟨p', vs, rfl, h1, h2⟩ := hx
        obtain ⟨z, e1, e2⟩ := Rps.at h2 ed
        exact .inr (.inl ⟨p', vs, _, z, rfl, rfl, h1, e1, hh _ _ ⟨hE, hW, e2, fun z => by cases z⟩⟩)
      · obtain ⟨p', vs, rfl, h1, _, _, h2⟩ := hx
        obtain ⟨z, e1, e2⟩ := Rps.at h2 ed
        exact .inl ⟨p', vs, _, z, rfl, rfl, SqL.of h1, e1, hh _ _ ⟨hE, hW, e2, fun z => by cases z⟩⟩
      · cases ed
    · cases ed
  have go2 : ∀ o : Option D, o = ixV x y → Out (gx X f) C W σ H2 (lift o u2 : Re D) (fun d u' => ∀ v' H', Post (gx X f) C H A (Ex.ix a b).fresh d u' v' H' → Q v' H') → rIx X.K v w H2 Q := fun o eo h => by
    cases o with
    | none => exact h.elim
    | some d => exact go d eo.symm h
  cases x with
  | cup =>
    have h : Out (gx X f) C W σ H2 (lift (ixC u2 y) u2 : Re D) (fun d u' => ∀ v' H', Post (gx X f) C H A (Ex.ix a b).fresh d u' v' H' → Q v' H') := h
    cases hx
    unfold ixC at h
    cases y with
    | int i =>
      cases hy
      have rc : Rps (gx X f) C H2 (fun a => A a ∨ NL H a) [.int u2.1, .int u2.2] [.int u2.1, .int u2.2] := ⟨_, _, rfl, rfl, _, _, rfl, rfl, rfl⟩
      cases e : atI [D.int u2.1, D.int u2.2] i with
      | none =>
        simp only [e] at h
        exact h.elim
      | some d =>
        simp only [e] at h
        obtain ⟨z, e1, e2⟩ := Rps.at rc e
        exact .inl ⟨_, _, _, z, rfl, rfl, SqL.of hW.cup, e1, h _ _ ⟨hE, hW, e2, fun z => by cases z⟩⟩
    | _ => exact h.elim
  | _ => exact go2 _ rfl h
end
end Ev

/-! Calls, built-in functions, isinstance; targets; what is walked. -/
namespace Ev
open PySem PySem.Spec PyProof.Rows L2 LamX
section
variable {p : PC} {f : Fx} {wd : Words} {nw : Str} {pr : List FD} {n : Nat} {X : Cx} {m : MC} {C : Addr} {W : WX} {call : Nat → List D → Cup → Re D}

/-! ### calls of defs -/
theorem pe_callS0 {CX : CXT} {k : Nat} {fo : Addr} {fd : FuncData} {ps : List Str} {sp : Sp} {E : L2.St → XK} {x : Str} {q pos : Pos} (F : FnOk X.prog X.w X.K X.mg X.base CX k fo fd ps sp) (hr : Room k X.A) (hg : Gl X x) (hm : X.mg x = some (.ref fo)) (hk : PySem.W.keepIn X.K (.ref fo) = true) (hb : Binds X.K fd ps []) (hx : ∀ σ, PassesAt CX X σ (E σ))
    (hdb : (x == ("__debug__" : Str)) = false) : PE X (.Call (.Name x q) [] [] pos) (tCallS sp E tNil) := by
  refine ⟨fun pins s σ H Q I h => ?_⟩
  refine wpAny_Call_Name_kw (ld_glob I hg hm ?_ hdb)
  exact PySem.W.callWith_K0 I.kIn hk (run_fnS (us := []) F hr hb (hx σ) I .nil h)
/-- what a call of the k-th def asks -/
theorem spF_of {k : Nat} {σ : L2.St} {H H1 : Hp} {A : Addr → Prop} {ds : List D} {u : Cup} {vs : List V} {Q : VK} (po : Posts (gx X f) C H A ds u vs H1)
    (o : Out (gx X f) C W σ H1 (run wd nw pr n k ds u) fun d u' => ∀ v H', Post (gx X f) C H A false d u' v H' → Q v H') : SpF (gx X f) (run wd nw pr n k) vs H1 Q (WE W σ) := by
  refine ⟨C, fun a => A a ∨ NL H a, ds, u, po.rp, po.wd, ?_⟩
  cases e : run wd nw pr n k ds u with
  | ok d u' =>
    rw [e] at o
    exact fun v H' x w r => o v H' ⟨po.ext.trans x, w, r.mono fun a ha => ha.elim id fun z => .inr (po.ext.free a z), fun z => by cases z⟩
  | exc j u' =>
    rw [e] at o
    exact fun H' x w => o H' x w
  | bad =>
    rw [e] at o
    exact o
theorem pe_call' (h : XOk p f wd nw pr n X m) (hh : m.hot = false) (tk : L2N.Takes X W) {k : Nat} {es : List Ex} {x : Str} {xs : List Expr} {q pos : Pos} (hf : p.fn[k]? = some x) (hg : Ev.glb m.sc x = true) (ho : okN x = true) (ha : PA X xs (tL (gx X f) C wd nw (run wd nw pr n) W es)) (hl : mL p m es xs = true) : PE X (.Call (.Name x q) xs [] pos) (tE (gx X f) C wd nw (run wd nw pr n) W (.call k es)) := by
  obtain ⟨h1, h2, fd, ps, h3, F⟩ := h.fn k x hf
  have hdb := (okN_of ho).1
  have fin : ∀ {t : TA}, (∀ σ H Q, tL (gx X f) C wd nw (run wd nw pr n) W es σ H Q → t σ H Q) → ∀ σ H Q, tE (gx X f) C wd nw (run wd nw pr n) W (.call k es) σ H Q → tCallS (SpF (gx X f) (run wd nw pr n k)) (WE W) t σ H Q := fun {t} ht σ H Q q => by
    obtain ⟨env, u, A, rel, w, o⟩ := q
    rw [evE] at o
    refine ht σ H _ ⟨env, u, A, rel, w, o.bind.imp fun ds u1 o1 vs H1 po => ?_⟩
    exact spF_of po (o1.up po.ext)
  cases xs with
  | nil =>
    cases es with
    | cons _ _ => cases hl
    | nil =>
      refine peImp (pe_callS0 F (h.room hh) (h.glb hg) h1 h2 h3 (fun σ => L2N.passAt tk σ) hdb) (fin fun σ H Q q => ?_)
      obtain ⟨env, u, A, rel, w, o⟩ := q
      simp only [evL] at o
      exact o [] H ⟨w.refl, w, rfl⟩
  | cons y ys =>
    cases es with
    | nil => cases hl
    | cons e es =>
      simp only [mL, Bool.and_eq_true] at hl
      exact peImp (pe_callS F (h.room hh) (h.glb hg) h1 h2 h3 (fun σ => L2N.passAt tk σ) ha hdb (star_of (mE_starless hl.1.2)) (mL_stars hl.2)) (fin fun _ _ _ q => q)
/-- a name of one's own that holds a def is called -/
theorem pe_callv' (h : XOk p f wd nw pr n X m) (hh : m.hot = false) (tk : L2N.Takes X W) {i : Nat} {es : List Ex} {x : Str} {xs : List Expr} {q pos : Pos} (hN : m.N[i]? = some x) (hv : Ev.vis m.sc x = true) (ho : okN x = true) (ha : PA X xs (tL (gx X f) C wd nw (run wd nw pr n) W es)) (hl : mL p m es xs = true) (hne : xs ≠ []) : PE X (.Call (.Name x q) xs [] pos) (tE (gx X f) C wd nw (run wd nw pr n) W (.callv i es)) := by
  refine ⟨fun pins s σ H Q I hq => ?_⟩
  obtain ⟨env, u, A, rel, w, o⟩ := hq
  have rel' : RelE (gx X f) C H A env σ (i :: Ex.fvs es) := rel
  obtain ⟨o1, o2, o3⟩ := okN_of ho
  rw [evE] at o
  split at o
  · rename_i b k ed
    obtain ⟨v, e1, e2⟩ := rel' i (by simp) b (.fn k) ed
    obtain ⟨e2a, e2'⟩ := e2
    subst e2'
    obtain ⟨y, hk⟩ := (h.kn k).mp e2a
    have _ := 0
    · obtain ⟨h1, h2, fd, ps, h3, F⟩ := h.fn k y hk
      refine wpAny_Call_Name_kw (thn ((pe_var (pos := q) (i := i) (by rw [h.N]; exact hN) (h.vis hv) o1 o2).run pins s σ H (fun v H1 => v = .ref (f.fa k) ∧ H1 = H) I ⟨.ref (f.fa k), e1, rfl, rfl⟩) fun fv s1 ⟨v', H1, I1, r1, ev, eH⟩ => ?_)
      subst ev
      rw [eH] at I1
      cases r1
      cases xs with
      | nil => exact absurd rfl hne
      | cons y ys =>
        cases es with
        | nil => cases hl
        | cons e es =>
          have hl' := hl
          simp only [mL, Bool.and_eq_true] at hl'
          refine PySem.W.callWith_K (h₀ := X.base) I1.ok.mod.kin h2 (thn (ha.run pos pins s1 σ H (fun vs H2 => SpF (gx X f) (run wd nw pr n k) vs H2 Q (WE W σ)) I1 ⟨env, u, A, rel'.sub (fun _ hi => List.mem_cons_of_mem _ hi), w, o.bind.imp fun ds u1 o1 vs H2 po => spF_of po (o1.up po.ext)⟩) fun us s2 ⟨vs, H2, I2, r, q'⟩ => ⟨I2.kIn, ?_⟩) (star_of (mE_starless hl'.1.2)) (mL_stars hl'.2)
          exact run_fnS F (h.room hh) h3 (L2N.passAt tk σ) I2 r q'
  · exact o.elim
end
end Ev

/-! Built-in functions, isinstance. -/
namespace Ev
open PySem PySem.Spec PyProof.Rows L2 LamX
section
variable {p : PC} {f : Fx} {wd : Words} {nw : Str} {pr : List FD} {n : Nat} {X : Cx} {m : MC} {C : Addr} {W : WX} {call : Nat → List D → Cup → Re D}

def rBi (K : PySem.W.Frag) : Bi → List V → Hp → VK → Prop
  | .len => fun xs H Q => ∃ p ys, xs = [.ref p] ∧ (SqL K H p ys ∨ SqT K H p ys) ∧ Q (.int ys.length) H
  | .abs => fun xs H Q => ∃ i, xs = [.int i] ∧ Q (.int (if i < 0 then -i else i)) H
  | .int => fun xs H Q => (∃ i, xs = [.int i] ∧ Q (.int i) H) ∨ ∃ k, xs = [.bl k] ∧ Q (.int (if k then 1 else 0)) H
  | .tuple => fun xs H Q => ∃ p ys, xs = [.ref p] ∧ ((SqL K H p ys ∧ ∀ l, H l = none → Q (.ref l) (upd H l (.tup ys))) ∨ (SqT K H p ys ∧ Q (.ref p) H))
  | .all => rAll K
  | .any => rAny K
  | .sum => rSum K
  | .gcd => rGcd
theorem pe_biR (h : XOk p f wd nw pr n X m) (hh : m.hot = false) {b : Bi} {x : Str} {e : Expr} {es : List Expr} {q pos : Pos} {t : TA} (hn : x = b.name) (hg : Ev.glb m.sc x = true) (hm : b = .gcd ∨ X.mg x = none) (ha : PA X (e :: es) t)
    (he : starEach (e :: es) X.env = (false, eval e X.env) :: starEach es X.env) (hpl : (backTo pos (starEach es X.env)).any (·.1) = false) : PE X (.Call (.Name x q) (e :: es) [] pos) (tCB (rBi X.K b) t) := by
  have hG := h.glb hg
  subst hn
  cases b with
  | gcd => exact pe_callBfun cr_gcd hG h.gcd ha (by decide) he hpl
  | len => exact pe_callB call_len_seq hG (hm.resolve_left (by decide)) PySem.boot_len ha (by decide) (by decide) he hpl
  | abs => exact pe_callB call_abs hG (hm.resolve_left (by decide)) (by decide +kernel) ha (by decide) (by decide) he hpl
  | int => exact pe_callTy call_int1 hG (hm.resolve_left (by decide)) (by decide +kernel) ha (by decide) (by decide) he hpl
  | tuple => exact pe_callTy call_tuple_of hG (hm.resolve_left (by decide)) (by decide +kernel) ha (by decide) (by decide) he hpl
  | all => exact pe_callB (cr_all (h.calm hh)) hG (hm.resolve_left (by decide)) (by decide +kernel) ha (by decide) (by decide) he hpl
  | any => exact pe_callB (cr_any (h.calm hh)) hG (hm.resolve_left (by decide)) (by decide +kernel) ha (by decide) (by decide) he hpl
  | sum => exact pe_callB (cr_sum (h.calm hh)) hG (hm.resolve_left (by decide)) (by decide +kernel) ha (by decide) (by decide) he hpl
theorem val_bi {b : Bi} {xs : List D} {d : D} {vs : List V} {H H2 : Hp} {A : Addr → Prop} {u : Cup} {Q : VK} (e : biV b xs = some d) (hx : Rps (gx X f) C H2 (fun a => A a ∨ NL H a) xs vs)
    (hE : Ext C H H2) (hW : Wd (gx X f) C H2 u) (h : ∀ v' H', Post (gx X f) C H A false d u v' H' → Q v' H') : rBi X.K b vs H2 Q := by
  have fi : ∀ z : Int, d = .int z → Q (.int z) H2 := fun z ez => h _ _ ⟨hE, hW, by rw [ez]; rfl, fun z => by cases z⟩
  have fb : ∀ z : Bool, d = .bl z → Q (.bl z) H2 := fun z ez => h _ _ ⟨hE, hW, by rw [ez]; rfl, fun z => by cases z⟩
  unfold biV at e
  split at e
  · cases e
    obtain ⟨v, r, rfl, ⟨a, ws, rfl, h1, h2⟩, h3⟩ := hx
    cases h3
    exact ⟨a, ws, rfl, .inr h1, by rw [← h2.length]; exact fi _ rfl⟩
  · cases e
    obtain ⟨v, r, rfl, ⟨a, ws, rfl, h1, _, _, h2⟩, h3⟩ := hx
    cases h3
    exact ⟨a, ws, rfl, .inl (SqL.of h1), by rw [← h2.length]; exact fi _ rfl⟩
  · cases e
    obtain ⟨v, r, rfl, h1, h3⟩ := hx
    cases h1; cases h3
    exact ⟨_, rfl, fi _ rfl⟩
  · cases e
    obtain ⟨v, r, rfl, h1, h3⟩ := hx
    cases h1; cases h3
    exact .inl ⟨_, rfl, fi _ rfl⟩
  · cases e
    obtain ⟨v, r, rfl, ⟨a, ws, rfl, h1, h2⟩, h3⟩ := hx
    cases h3
    exact ⟨a, ws, rfl, .inr ⟨h1, h _ _ ⟨hE, hW, ⟨a, ws, rfl, h1, h2⟩, fun z => by cases z⟩⟩⟩
  · cases e
    obtain ⟨v, r, rfl, ⟨a, ws, rfl, h1, _, _, h2⟩, h3⟩ := hx
    cases h3
    exact ⟨a, ws, rfl, .inl ⟨SqL.of h1, fun l nl => h _ _ ⟨hE.trans (hW.newX nl), hW.newW nl, ⟨l, ws, rfl, SqT.of upd_same, (hW.newX nl).rps h2⟩, fun z => by cases z⟩⟩⟩
  · obtain ⟨bs, e1, e2⟩ := Option.map_eq_some_iff.mp e
    obtain ⟨v, r, rfl, ⟨a, ws, rfl, h1, _, _, h2⟩, h3⟩ := hx
    cases h3
    exact ⟨a, bs, rfl, SqL.of (by rw [← h2.bls e1]; exact h1), fb _ e2.symm⟩
  · obtain ⟨bs, e1, e2⟩ := Option.map_eq_some_iff.mp e
    obtain ⟨v, r, rfl, ⟨a, ws, rfl, h1, _, _, h2⟩, h3⟩ := hx
    cases h3
    exact ⟨a, bs, rfl, SqL.of (by rw [← h2.bls e1]; exact h1), fb _ e2.symm⟩
  · obtain ⟨bs, e1, e2⟩ := Option.map_eq_some_iff.mp e
    obtain ⟨v, r, rfl, ⟨a, ws, rfl, h1, _, _, h2⟩, h3⟩ := hx
    cases h3
    exact ⟨a, bs, rfl, SqL.of (by rw [← h2.allI e1]; exact h1), fi _ e2.symm⟩
  · cases e
    obtain ⟨v, r, rfl, h1, v2, r2, rfl, h2, h3⟩ := hx
    cases h1; cases h2; cases h3
    exact ⟨_, _, rfl, fi _ rfl⟩
  · cases e
theorem pe_bi' (h : XOk p f wd nw pr n X m) (hh : m.hot = false) {b : Bi} {es : List Ex} {x : Str} {xs : List Expr} {q pos : Pos} (hn : x = b.name) (hg : Ev.glb m.sc x = true) (hm : b = .gcd ∨ X.mg x = none) (ha : PA X xs (tL (gx X f) C wd nw call W es)) (hl : mL p m es xs = true) (hne : xs ≠ []) :
    PE X (.Call (.Name x q) xs [] pos) (tE (gx X f) C wd nw call W (.bi b es)) := by
  cases xs with
  | nil => exact absurd rfl hne
  | cons y ys =>
    cases es with
    | nil => cases hl
    | cons e es =>
      have hl' := hl
      simp only [mL, Bool.and_eq_true] at hl'
      refine peImp (pe_biR h hh hn hg hm ha (star_of (mE_starless hl'.1.2)) (mL_stars hl'.2)) fun σ H Q q => ?_
      obtain ⟨env, u, A, rel, w, o⟩ := q
      rw [evE] at o
      refine ⟨env, u, A, rel, w, o.bind.imp fun ds u1 o1 vs H1 po => ?_⟩
      cases e : biV b ds with
      | none =>
        rw [e] at o1
        exact o1.elim
      | some d =>
        rw [e] at o1
        exact val_bi e po.rp po.ext po.wd o1

/-! ### isinstance -/
theorem ty_sq {K : PySem.W.Frag} {H : Hp} {a : Addr} {vs : List V} (h : SqT K H a vs) : TyX K H (.ref a) (.type "tuple") := by
  rcases h with (h | ⟨o, h⟩) | ⟨o, its, n, h1, h2, _⟩
  · exact .base (.tup h)
  · exact .fTuple h
  · exact .kTuple h1 h2
theorem isi_ty {t : Ty} {d : D} {b : Bool} {v : V} {H : Hp} {A : Addr → Prop} (e : isiV t d = some b) (h : Rp (gx X f) C H A d v) : ∃ ty : String, TyX X.K H v (.type ty) ∧ PySem.W.kitOne X.K (.type ty) (.type t.nm) = some b := by
  cases d with
  | non =>
    cases e; cases h
    exact ⟨"NoneType", .base .non, kit_ty (by cases t <;> decide +kernel)⟩
  | bl k =>
    cases h
    refine ⟨"bool", .base (.bl k), kit_ty ?_⟩
    cases t <;> (cases e; decide +kernel)
  | int k =>
    cases h
    refine ⟨"int", .base (.int k), kit_ty ?_⟩
    cases t <;> (cases e; decide +kernel)
  | str k =>
    cases h
    refine ⟨"str", .base (.str k), kit_ty ?_⟩
    cases t <;> (cases e; decide +kernel)
  | tup ds =>
    obtain ⟨a, vs, rfl, h1, h2⟩ := h
    refine ⟨"tuple", ty_sq h1, kit_ty ?_⟩
    cases t <;> (cases e; decide +kernel)
  | lst ds =>
    obtain ⟨a, vs, rfl, h1, h2⟩ := h
    refine ⟨"list", .base (.lst h1), kit_ty ?_⟩
    cases t <;> (cases e; decide +kernel)
  | fn k => cases e
  | cup => cases e
  | exc k => cases e
theorem boot_ty (t : Ty) : bootBuiltins t.name = some (.type t.nm) := by cases t <;> decide +kernel
theorem ty_ok (t : Ty) : t.name ≠ "__name__" ∧ (t.name == ("__debug__" : Str)) = false := by cases t <;> exact ⟨by decide, by decide⟩
theorem pe_isi' (h : XOk p f wd nw pr n X m) {a : Ex} {t : Ty} {x : Expr} {q q2 pos : Pos} {fi ty : Str} (hf : fi = "isinstance") (hg : Ev.glb m.sc fi = true) (hm : X.mg fi = none) (ht : ty = t.name) (hgt : Ev.glb m.sc ty = true) (hmt : X.mg ty = none)
    (ha : PE X x (tE (gx X f) C wd nw call W a)) (hs : starless x = true) : PE X (.Call (.Name fi q) [x, .Name ty q2] [] pos) (tE (gx X f) C wd nw call W (.isi a t)) := by
  subst hf
  subst ht
  have hty : PE X (.Name t.name q2) (tC (.ty t.nm)) := pe_bltn (h.glb hgt) hmt (boot_ty t) rfl (ty_ok t).1 (ty_ok t).2
  refine peImp (pe_callB call_isi (h.glb hg) hm boot_isinstance (pa_cons ha (pa_cons hty pa_nil) (star_of hs)) (by decide) (by decide) (star_of hs) rfl) fun σ H Q q => ?_
  obtain ⟨env, u, A, rel, w, o⟩ := q
  rw [evE] at o
  refine ⟨env, u, A, rel, w, o.bind.imp fun d u1 o1 v H1 po => ?_⟩
  cases e : isiV t d with
  | none =>
    rw [e] at o1
    exact o1.elim
  | some b =>
    rw [e] at o1
    obtain ⟨tn, h1, h2⟩ := isi_ty e po.rp
    exact ⟨v, .ty t.nm, .type tn, .type t.nm, b, rfl, .ty _, h1, h2, o1 _ _ ⟨po.ext, po.wd, rfl, fun z => by cases z⟩⟩

/-! ### isinstance of the exception that is handled; join -/
theorem mem_of_lk {j : Nat} {b : Bool} : ∀ {t : List (Nat × Bool)}, t.lookup j = some b → (j, b) ∈ t
  | [], h => by cases h
  | (k, c) :: t, h => by
    rw [List.lookup_cons] at h
    split at h
    · rename_i e
      cases h
      rw [beq_iff_eq] at e
      rw [e]
      exact List.mem_cons_self
    · exact List.mem_cons_of_mem _ (mem_of_lk h)
theorem pe_isE' (h : XOk p f wd nw pr n X m) (hh : m.hot = true) (her : m.er = true) {i k : Nat} {t : List (Nat × Bool)} {fi x c : Str} {q q1 q2 pos : Pos} (hf : fi = "isinstance") (hg : Ev.glb m.sc fi = true) (hm : X.mg fi = none) (hN : m.N[i]? = some x) (hv : Ev.vis m.sc x = true) (ho : okN x = true)
    (hc : p.cn[k]? = some c) (hgc : Ev.glb m.sc c = true) (hoc : okN c = true) (ht : (t.all fun q => decide (p.sb q.1 k = some q.2)) = true) :
    PE X (.Call (.Name fi q) [.Name x q1, .Name c q2] [] pos) (tE (gx X f) C wd nw call W (.isE i t k)) := by
  subst hf
  obtain ⟨cr, sb, cn⟩ := h.isx hh her
  have hcl : PE X (.Name c q2) (tC (.ref (f.ca k))) := pe_glob (v := .ref (f.ca k)) (h.glb hgc) (cn k c hc) rfl (okN_of hoc).1
  have hx : PE X (.Name x q1) (tVar i) := pe_var (by rw [h.N]; exact hN) (h.vis hv) (okN_of ho).1 (okN_of ho).2.1
  refine peImp (pe_callB cr (h.glb hg) hm boot_isinstance (pa_cons hx (pa_cons hcl pa_nil)) (by decide) (by decide)) fun σ H Q q => ?_
  obtain ⟨env, u, A, rel, w, o⟩ := q
  rw [evE] at o
  split at o
  · rename_i b j ei
    obtain ⟨v, h1, h2, h3⟩ := rel i (by simp [Ex.fv]) _ _ ei
    subst h2
    have h3 : j = f.xk := h3
    split at o
    · rename_i b2 e2
      refine ⟨.ref f.xa, h1, .ref (f.ca k), .ref (f.ca k), b2, rfl, fun u r => r, sb k b2 ?_, o _ _ ⟨w.refl, w, rfl, fun z => by cases z⟩⟩
      have hm := mem_of_lk e2
      have z := List.all_eq_true.mp ht _ hm
      rw [← h3]
      exact of_decide_eq_true z
    · exact o.elim
  · exact o.elim
theorem pe_join' {a b : Ex} {k : Const} {j : Nat} {p0 apos cpos : Pos} {e : Expr} (ha : PE X (.Constant k j p0) (tE (gx X f) C wd nw call W a)) (hb : PE X e (tE (gx X f) C wd nw call W b)) (hs : starless e = true) (hl : (apos.endLine == cpos.line) = true) :
    PE X (.Call (.Attribute (.Constant k j p0) "join" apos) [e] [] cpos) (tE (gx X f) C wd nw call W (.join a b)) := by
  refine peImp (pe_join ha hb (star_of hs) rfl hl) fun σ H Q q => ?_
  obtain ⟨env, u, A, rel, w, o⟩ := q
  rw [evE] at o
  have rel' : RelE (gx X f) C H A env σ (a.fv ++ b.fv) := rel
  refine ⟨env, u, A, rel'.left, w, o.bind.imp fun d u1 o1 v H1 po => ?_⟩
  cases d with
  | str s =>
    have ev : v = .str s := po.rp
    subst ev
    refine ⟨⟨s, rfl⟩, env, u1, A, rel'.right.ext po.ext, po.wd, (o1.bind.up po.ext).imp fun d2 u2 o2 w2 H2 ps => ?_⟩
    cases d2 with
    | lst ds =>
      obtain ⟨a2, vs, rfl, h1, h3, h4, h2⟩ := ps.rp
      simp only [joinV] at o2
      cases es : stl ds with
      | none =>
        rw [es] at o2
        exact o2.elim
      | some ys =>
        rw [es] at o2
        simp only at o2
        split at o2
        · rename_i hz
          have e2 := h2.stl es
          subst e2
          exact ⟨s, a2, ys, rfl, rfl, .inl (SqL.of h1), hz, o2 _ _ ⟨po.ext.trans ps.ext, ps.wd, rfl, fun z => by cases z⟩⟩
        · exact o2.elim
    | _ => exact o2.elim
  | _ => exact o1.elim
end
end Ev

/-! Targets, what is walked, comprehensions. -/
namespace Ev
open PySem PySem.Spec PyProof.Rows L2 LamX
/-- the slots of the evaluator and of the frame behind an assignment -/
structure PutR (g : G) (C : Addr) (H : Hp) (A : Addr → Prop) (is : List Nat) (env env' : En) (σ σ' : L2.St) : Prop where
  len : σ'.length = σ.length
  len2 : env'.length = env.length
  off : ∀ (i : Nat), i ∉ is → env'[i]? = env[i]? ∧ σ'[i]? = σ[i]?
  on : ∀ (i : Nat) (b : Bool) (d : D), env'[i]? = some (some (b, d)) → (env[i]? = some (some (b, d)) ∧ σ'[i]? = σ[i]?) ∨ (b = false ∧ ∃ v, σ'[i]? = some (some v) ∧ Rp g C H A d v)
theorem PutR.trans {g : G} {C : Addr} {H : Hp} {A : Addr → Prop} {is js : List Nat} {e0 e1 e2 : En} {s0 s1 s2 : L2.St} (a : PutR g C H A is e0 e1 s0 s1) (b : PutR g C H A js e1 e2 s1 s2) : PutR g C H A (is ++ js) e0 e2 s0 s2 := by
  refine ⟨b.len.trans a.len, b.len2.trans a.len2, fun i hi => ?_, fun i k d e => ?_⟩
  · rw [List.mem_append, not_or] at hi
    exact ⟨(b.off i hi.2).1.trans (a.off i hi.1).1, (b.off i hi.2).2.trans (a.off i hi.1).2⟩
  · rcases b.on i k d e with ⟨h1, h2⟩ | h
    · rcases a.on i k d h1 with ⟨k1, k2⟩ | ⟨k1, v, k2, k3⟩
      · exact .inl ⟨k1, h2.trans k2⟩
      · exact .inr ⟨k1, v, h2.trans k2, k3⟩
    · exact .inr h
theorem PutR.set {g : G} {C : Addr} {H : Hp} {A : Addr → Prop} {i : Nat} {env : En} {σ : L2.St} {d : D} {v : V} (hi : i < σ.length) (r : Rp g C H A d v) : PutR g C H A [i] env (env.set i (some (false, d))) σ (σ.set i (some v)) := by
  refine ⟨List.length_set, List.length_set, fun j hj => ?_, fun j b d' e => ?_⟩
  · have hj : i ≠ j := fun e => hj (by simp [e])
    exact ⟨List.getElem?_set_ne hj, List.getElem?_set_ne hj⟩
  · by_cases hj : i = j
    · subst hj
      by_cases hl : i < env.length
      · rw [List.getElem?_set_self hl] at e
        cases e
        exact .inr ⟨rfl, v, List.getElem?_set_self hi, r⟩
      · rw [List.getElem?_eq_none (by rw [List.length_set]; omega)] at e
        cases e
    · rw [List.getElem?_set_ne hj] at e ⊢
      exact .inl ⟨e, rfl⟩
section
variable {p : PC} {f : Fx} {wd : Words} {nw : Str} {pr : List FD} {n : Nat} {X : Cx} {m : MC} {C : Addr} {W : WX} {call : Nat → List D → Cup → Re D}
def tG (g : G) (C : Addr) (tg : Tg) : TG := fun v σ H Q => ∃ A d env env', Rp g C H A d v ∧ tg.put d env = some env' ∧ ∀ σ', PutR g C H A tg.slots env env' σ σ' → Q σ' H
def tGs (g : G) (C : Addr) (ts : List Tg) : TGs := fun vs σ H Q => ∃ A ds env env', Rps g C H A ds vs ∧ Tg.puts ts ds env = some env' ∧ ∀ σ', PutR g C H A (Tg.slotss ts) env env' σ σ' → Q σ' H
theorem pgImp {tg : Expr} {t t' : TG} (h : PG X tg t) (k : ∀ v σ H Q, σ.length = X.N.length → t' v σ H Q → t v σ H Q) : PG X tg t' := ⟨fun pins s σ H v u Q I r q => h.run pins s σ H v u Q I r (k v σ H Q I.len q)⟩
theorem pgsImp {tg : List Expr} {t t' : TGs} (h : PGs X tg t) (k : ∀ v σ H Q, σ.length = X.N.length → t' v σ H Q → t v σ H Q) : PGs X tg t' := ⟨fun pins s σ H v u Q I r q => h.run pins s σ H v u Q I r (k v σ H Q I.len q)⟩
theorem mTc_as {X : Cx} : ∀ {ts : List Tg} {es : List Expr}, mTcs m ts es = true → (assignEach es X.env).length = ts.length ∧ (assignEach es X.env).findIdx? (·.1) = none
  | [], [], _ => ⟨rfl, rfl⟩
  | [], _ :: _, h => by cases h
  | _ :: _, [], h => by cases h
  | a :: ts, e :: es, h => by
    simp only [mTcs, Bool.and_eq_true] at h
    obtain ⟨h1, h2⟩ := mTc_as (X := X) h.2
    have e1 : assignEach (e :: es) X.env = (false, assign e X.env) :: assignEach es X.env := by
      cases a <;> cases e <;> first | rfl | (have z := h.1; simp [mTc] at z)
    rw [e1]
    exact ⟨by rw [List.length_cons, List.length_cons, h1], by rw [List.findIdx?_cons]; simp [h2]⟩
theorem asg_map {a : Tg} {e : Expr} {es : List Expr} (h : mTc m a e = true) : (assignEach (e :: es) X.env).map (·.2) = assign e X.env :: (assignEach es X.env).map (·.2) := by
  have e1 : assignEach (e :: es) X.env = (false, assign e X.env) :: assignEach es X.env := by
    cases a <;> cases e <;> first | rfl | (have z := h; simp [mTc] at z)
  rw [e1]
  rfl
mutual
theorem pg_ok (hN : X.N = m.N) (nd : X.N.Nodup) (ht : X.calm = true ∨ L2H.HotC X) (hl : ∀ x, loccell m.sc x = true → Loc X.env.scope x ∧ (X.fn x = true ∨ X.env.scope.names.lookup x = some .local)) : ∀ (tg : Tg) (e : Expr), mTc m tg e = true → PG X e (tG (gx X f) C tg)
  | .n i, e, h => by
    cases e with
    | Name x pos =>
      simp only [mTc, Bool.and_eq_true, decide_eq_true_eq] at h
      obtain ⟨l1, l2⟩ := hl x h.2
      have hi : X.N[i]? = some x := by rw [hN]; exact h.1
      refine pgImp (pg_name nd hi l1 l2) fun v σ H Q len q => ?_
      obtain ⟨A, d, env, env', r, ep, k⟩ := q
      simp only [Tg.put] at ep
      cases ep
      have hi' : i < X.N.length := (List.getElem?_eq_some_iff.mp hi).1
      exact k _ (PutR.set (by omega) r)
    | _ => simp [mTc] at h
  | .t ts, e, h => by
    cases e with
    | Tuple es k pos =>
      simp only [mTc] at h
      obtain ⟨a1, a2⟩ := mTc_as (X := X) h
      have hp : PGs X es (tGs (gx X f) C ts) := pgs_ok hN nd ht hl ts es h
      refine pgImp (ht.elim (fun calm => pg_tup calm hp a1 a2) fun hot => EvHot.pg_tupH hot hp a1 a2) fun v σ H Q len q => ?_
      obtain ⟨A, d, env, env', r, ep, k⟩ := q
      cases d with
      | tup ds =>
        simp only [Tg.put] at ep
        obtain ⟨a, vs, rfl, h1, h2⟩ := r
        refine ⟨a, vs, rfl, h1, ?_, A, ds, env, env', h2, ep, fun σ' pr => k σ' pr⟩
        rw [← h2.length]
        exact puts_len ep
      | _ => simp [Tg.put] at ep
    | _ => simp [mTc] at h
theorem pgs_ok (hN : X.N = m.N) (nd : X.N.Nodup) (ht : X.calm = true ∨ L2H.HotC X) (hl : ∀ x, loccell m.sc x = true → Loc X.env.scope x ∧ (X.fn x = true ∨ X.env.scope.names.lookup x = some .local)) : ∀ (ts : List Tg) (es : List Expr), mTcs m ts es = true → PGs X es (tGs (gx X f) C ts)
  | [], es, h => by
    cases es with
    | cons _ _ => cases h
    | nil =>
      refine pgsImp pgs_nil fun vs σ H Q len q => ?_
      obtain ⟨A, ds, env, env', r, ep, k⟩ := q
      cases ds with
      | cons _ _ => simp [Tg.puts] at ep
      | nil =>
        simp only [Tg.puts] at ep
        cases ep
        have e : vs = [] := r
        exact ⟨e, k σ ⟨rfl, rfl, fun _ _ => ⟨rfl, rfl⟩, fun _ _ _ e => .inl ⟨e, rfl⟩⟩⟩
  | a :: ts, es, h => by
    cases es with
    | nil => cases h
    | cons e es =>
      simp only [mTcs, Bool.and_eq_true] at h
      refine pgsImp (pgs_cons (pg_ok hN nd ht hl a e h.1) (pgs_ok hN nd ht hl ts es h.2) (asg_map h.1)) fun vs σ H Q len q => ?_
      obtain ⟨A, ds, env, env', r, ep, k⟩ := q
      cases ds with
      | nil => simp [Tg.puts] at ep
      | cons d ds =>
        obtain ⟨v, r', rfl, r1, r2⟩ := r
        simp only [Tg.puts] at ep
        split at ep
        · rename_i env1 e1
          exact ⟨v, r', rfl, A, d, env, env1, r1, e1, fun σ1 p1 => ⟨A, ds, env1, env', r2, ep, fun σ2 p2 => k σ2 (p1.trans p2)⟩⟩
        · cases ep
theorem puts_len : ∀ {ts : List Tg} {ds : List D} {env env' : En}, Tg.puts ts ds env = some env' → ds.length = ts.length
  | [], [], _, _, _ => rfl
  | [], _ :: _, _, _, h => by simp [Tg.puts] at h
  | _ :: _, [], _, _, h => by simp [Tg.puts] at h
  | a :: ts, d :: ds, env, env', h => by
    simp only [Tg.puts] at h
    split at h
    · rw [List.length_cons, List.length_cons, puts_len h]
    · cases h
end
end
end Ev

/-! What is walked; comprehensions. -/
namespace Ev
open PySem PySem.Spec PyProof.Rows L2 LamX
section
variable {p : PC} {f : Fx} {wd : Words} {nw : Str} {pr : List FD} {n : Nat} {X : Cx} {m : MC} {C : Addr} {W : WX} {call : Nat → List D → Cup → Re D}

/-- what may change while it is walked -/
def OkB (H1 : Hp) (N B : Addr → Prop) : Prop := ∀ a, B a → (∃ vs, H1 a = some (.lst vs)) ∧ ¬ N a
/-- what an iterator that has come gives -/
def Gives (g : G) (C : Addr) (H H1 : Hp) (A : Addr → Prop) (xs : List D) (J : It) : Prop := ∃ (Gd : Hp → Prop) (Y : Nat → Hp → V → Hp → Prop), Walk J xs.length Gd Y ∧ (∀ B H2, OkB H1 (fun a => A a ∨ NL H a) B → ExtB C B H1 H2 → Gd H2) ∧
  ∀ B i H2 x H3 u2, OkB H1 (fun a => A a ∨ NL H a) B → i < xs.length → ExtB C B H1 H2 → Wd g C H2 u2 → Y i H2 x H3 → ∃ d, xs[i]? = some d ∧ Ext C H2 H3 ∧ Wd g C H3 u2 ∧ Rp g C H3 (fun a => (A a ∨ NL H a) ∧ ¬ NL H1 a) d x
def tI (g : G) (C : Addr) (wd : Words) (nw : Str) (call : Nat → List D → Cup → Re D) (W : WX) (src : Ex) : TI := fun σ H R => ∃ env u A, RelE g C H A env σ src.fv ∧ Wd g C H u ∧ Out g C W σ H (evE wd nw call src env u) fun d u' => ∃ xs, d.items = some xs ∧
  ∀ J H1, Ext C H H1 → Wd g C H1 u' → Gives g C H H1 A xs J → R J H1
theorem Rp.tight {g : G} {H : Hp} {A : Addr → Prop} {d : D} {v : V} (h : Rp g C H A d v) : Rp g C H (fun a => A a ∧ ¬ NL H a) d v := Rp.move (fun _ _ x => x) (fun a vs h1 h2 _ => ⟨h1, h2, fun z => z vs h1⟩) d v h
theorem Rps.tight {g : G} {H : Hp} {A : Addr → Prop} {d : List D} {v : List V} (h : Rps g C H A d v) : Rps g C H (fun a => A a ∧ ¬ NL H a) d v := Rps.move (fun _ _ x => x) (fun a vs h1 h2 _ => ⟨h1, h2, fun z => z vs h1⟩) d v h
theorem ExtB.sqL {K : PySem.W.Frag} {B : Addr → Prop} {H H' : Hp} (x : ExtB C B H H') {a : Addr} {vs : List V} (h : H a = some (.lst vs)) (n : a ≠ C) (nb : ¬ B a) : SqL K H' a vs := SqL.of (x.keep _ _ h n nb fun ps e => by cases e)
/-- a list or a tuple that is walked -/
theorem pi_seq {tg l : Expr} {tl : TE} (hl : PE X l tl) : PI X tg l (fun σ H R => tl σ H fun x H1 => (∃ a, x = .ref a ∧ (∃ xs, SqL X.K H1 a xs) ∧ R (Itl X.K a) H1) ∨ (∃ a, x = .ref a ∧ (∃ xs, SqT X.K H1 a xs) ∧ R (Itt X.K a) H1)) := by
  refine ⟨fun pins s σ H R I h => ?_⟩
  refine thn (hl.run pins s σ H _ I h) fun v s1 ⟨x, H1, I1, r1, q1⟩ => ?_
  rcases q1 with ⟨a, e, ⟨xs, hq⟩, q⟩ | ⟨a, e, ⟨xs, hq⟩, q⟩
  · subst e
    cases r1
    obtain ⟨its, rv, p, hz⟩ := I1.list hq
    refine wpAny_pyIter_list p.isList ?_
    refine ⟨s1.heap.objs.size, [s1.heap.objs.size], _, _, H1, rfl, I1.kept (t' := s1.toks) fun b o e => Heap.get?_push_of_some _ e, turn_list a _, ⟨_, Heap.get?_push_size _ rfl, rfl, rfl⟩, fun b hb => ?_, q⟩
    have e : b = s1.heap.objs.size := by simpa using hb
    subst e
    exact I1.fpOk (Nat.le_refl _) (I1.hok.fresh (Nat.le_refl _))
  · subst e
    cases r1
    obtain ⟨its, rv, p, hz⟩ := I1.tuple hq
    refine wpAny_pyIter_tuple (show s1.heap.IsTuple a its.toArray from p) ?_
    refine ⟨s1.heap.objs.size, [s1.heap.objs.size], _, _, H1, rfl, I1.kept (t' := s1.toks) fun b o e => Heap.get?_push_of_some _ e, turn_tuple a _, ⟨_, Heap.get?_push_size _ rfl, rfl, rfl⟩, fun b hb => ?_, q⟩
    have e : b = s1.heap.objs.size := by simpa using hb
    subst e
    exact I1.fpOk (Nat.le_refl _) (I1.hok.fresh (Nat.le_refl _))
theorem piImp {tg e : Expr} {t t' : TI} (h : PI X tg e t) (k : ∀ σ H Q, t' σ H Q → t σ H Q) : PI X tg e t' := ⟨fun pins s σ H Q I q => h.run pins s σ H Q I (k σ H Q q)⟩
theorem gives_of {H H1 : Hp} {A : Addr → Prop} {ds : List D} {vs : List V} {Gd : Hp → Prop} {J : It} {u1 : Cup} (wc : Wd (gx X f) C H1 u1) (w : Walk J vs.length Gd (YAt vs)) (hG : ∀ B H2, OkB H1 (fun a => A a ∨ NL H a) B → ExtB C B H1 H2 → Gd H2) (r : Rps (gx X f) C H1 (fun a => A a ∨ NL H a) ds vs) : Gives (gx X f) C H H1 A ds J := by
  refine ⟨Gd, _, by rw [r.length]; exact w, hG, fun B i H2 x H3 u2 hB _ e w2 y => ?_⟩
  obtain ⟨y1, y2⟩ := y
  subst y1
  have hi : i < ds.length := by
    rw [r.length]
    exact (List.getElem?_eq_some_iff.mp y2).1
  obtain ⟨v, h1, h2⟩ := (r.tight).get (i := i) (d := ds[i]) (by simp [hi])
  rw [y2] at h1
  cases h1
  exact ⟨ds[i], by simp [hi], w2.refl, w2, e.rp ⟨_, wc.cup⟩ (fun a z => (hB a z).1) (fun a z k => (hB a k).2 z.1) h2⟩
theorem pi_val' {tg : Expr} {e : Ex} {x : Expr} (h : PE X x (tE (gx X f) C wd nw call W e)) : PI X tg x (tI (gx X f) C wd nw call W e) := by
  refine piImp (pi_seq h) fun σ H R q => ?_
  obtain ⟨env, u, A, rel, w, o⟩ := q
  refine ⟨env, u, A, rel, w, o.imp fun d u1 ⟨xs, ex, o1⟩ v H1 po => ?_⟩
  cases d with
  | tup ds =>
    cases ex
    obtain ⟨a, vs, rfl, h1, h2⟩ := po.rp
    exact .inr ⟨a, rfl, ⟨vs, h1⟩, o1 _ _ po.ext po.wd (gives_of po.wd walk_tup (fun B H2 hB e => e.sqT ⟨_, po.wd.cup⟩ (fun a z => (hB a z).1) h1) h2)⟩
  | lst ds =>
    cases ex
    obtain ⟨a, vs, rfl, h1, h3, h4, h2⟩ := po.rp
    exact .inl ⟨a, rfl, ⟨vs, SqL.of h1⟩, o1 _ _ po.ext po.wd (gives_of po.wd walk_list (fun B H2 hB e => e.sqL h1 h4 fun z => (hB a z).2 h3) h2)⟩
  | _ => cases ex
theorem pihImp {X : Cx} {tg it : Expr} {t t' : TI} (h : L2H.PIH X tg it t) (k : ∀ σ H R, t' σ H R → t σ H R) : L2H.PIH X tg it t' := ⟨fun pins s σ H R I q => h.run pins s σ H R I (k σ H R q)⟩
theorem pi_valH' {tg : Expr} {e : Ex} {x : Expr} (h : PE X x (tE (gx X f) C wd nw call W e)) : L2H.PIH X tg x (tI (gx X f) C wd nw call W e) := by
  refine pihImp (EvHot.pi_seqH h) fun σ H R q => ?_
  obtain ⟨env, u, A, rel, w, o⟩ := q
  refine ⟨env, u, A, rel, w, o.imp fun d u1 ⟨xs, ex, o1⟩ v H1 po => ?_⟩
  cases d with
  | tup ds =>
    cases ex
    obtain ⟨a, vs, rfl, h1, h2⟩ := po.rp
    exact .inr ⟨a, rfl, ⟨vs, h1⟩, o1 _ _ po.ext po.wd (gives_of po.wd walk_tup (fun B H2 hB e => e.sqT ⟨_, po.wd.cup⟩ (fun a z => (hB a z).1) h1) h2)⟩
  | lst ds =>
    cases ex
    obtain ⟨a, vs, rfl, h1, h3, h4, h2⟩ := po.rp
    exact .inl ⟨a, rfl, ⟨vs, SqL.of h1⟩, o1 _ _ po.ext po.wd (gives_of po.wd walk_list (fun B H2 hB e => e.sqL h1 h4 fun z => (hB a z).2 h3) h2)⟩
  | _ => cases ex
theorem range_len (k : Int) : (range k).length = k.toNat := by simp [range]
theorem range_at {k : Int} {i : Nat} (h : i < k.toNat) : (range k)[i]? = some (.int (0 + (i : Int))) := by simp [range, h]
theorem pi_rng' (h : XOk p f wd nw pr n X m) {tg : Expr} {a : Ex} {x : Expr} {fi : Str} {q pos : Pos} (hf : fi = "range") (hg : Ev.glb m.sc fi = true) (hm : X.mg fi = none) (ha : PE X x (tE (gx X f) C wd nw call W a)) (hs : starless x = true) : PI X tg (.Call (.Name fi q) [x] [] pos) (tI (gx X f) C wd nw call W (.rng a)) := by
  subst hf
  refine piImp (pi_range1 (h.glb hg) hm (pa_cons ha pa_nil (star_of hs)) (star_of hs)) fun σ H R q => ?_
  obtain ⟨env, u, A, rel, w, o⟩ := q
  rw [evE] at o
  refine ⟨env, u, A, rel, w, o.bind.imp fun d u1 o1 v H1 po => ?_⟩
  cases d with
  | int k =>
    have ev : v = .int k := po.rp
    subst ev
    simp only at o1
    split at o1
    · rename_i hk
      obtain ⟨xs, ex, o2⟩ := o1
      cases ex
      refine ⟨k, rfl, by omega, by omega, o2 _ _ po.ext po.wd ⟨fun _ => True, _, by rw [range_len]; exact walk_range, fun _ _ _ _ => trivial, fun B i H2 y H3 u2 hB hi e w2 yy => ?_⟩⟩
      obtain ⟨y1, y2⟩ := yy
      subst y1
      rw [range_len] at hi
      exact ⟨_, range_at hi, w2.refl, w2, y2⟩
    · exact o1.elim
  | _ => exact o1.elim

theorem walk_zipT {K : PySem.W.Frag} {a b : Addr} {xs ys : List V} {k : Nat} (hn : k = min xs.length ys.length) : Walk (RZ.ItzT K a b) k (fun H => SqT K H a xs ∧ SqT K H b ys) (YPair (fun i => xs[i]?) (fun i => ys[i]?)) := by
  subst hn
  refine ⟨fun i _ hi q => ?_, fun _ q => ⟨xs, ys, q.1, q.2, by omega⟩, fun i H v H' _ q y => ?_⟩
  · have h1 : i < xs.length := by omega
    have h2 : i < ys.length := by omega
    exact ⟨xs, ys, xs[i], ys[i], q.1, q.2, by simp [h1], by simp [h2]⟩
  · obtain ⟨T, x, z, h1, h2, h3, h4, h5⟩ := y
    exact ⟨T, x, z, h1, h2, h3, h4 xs q.1, h5 ys q.2⟩
theorem gives_zip {H H1 : Hp} {A : Addr → Prop} {ds es : List D} {vs ws : List V} {Gd : Hp → Prop} {J : It} {u1 : Cup} (wc : Wd (gx X f) C H1 u1) (w : Walk J (min vs.length ws.length) Gd (YPair (fun i => vs[i]?) (fun i => ws[i]?))) (hG : ∀ B H2, OkB H1 (fun a => A a ∨ NL H a) B → ExtB C B H1 H2 → Gd H2) (r : Rps (gx X f) C H1 (fun a => A a ∨ NL H a) ds vs) (r2 : Rps (gx X f) C H1 (fun a => A a ∨ NL H a) es ws) :
    Gives (gx X f) C H H1 A ((ds.zip es).map fun p => .tup [p.1, p.2]) J := by
  have hl : ((ds.zip es).map fun p => D.tup [p.1, p.2]).length = min vs.length ws.length := by rw [List.length_map, List.length_zip, r.length, r2.length]
  refine ⟨Gd, _, by rw [hl]; exact w, hG, fun B i H2 x H3 u2 hB hi e w2 y => ?_⟩
  obtain ⟨T, v, z, rfl, nT, rfl, e1, e2⟩ := y
  have e1 : vs[i]? = some v := e1
  have e2 : ws[i]? = some z := e2
  have i1 : i < ds.length := by
    rw [r.length]
    exact (List.getElem?_eq_some_iff.mp e1).1
  have i2 : i < es.length := by
    rw [r2.length]
    exact (List.getElem?_eq_some_iff.mp e2).1
  obtain ⟨v', h1, h2⟩ := (r.tight).get (i := i) (d := ds[i]) (by simp [i1])
  obtain ⟨z', k1, k2⟩ := (r2.tight).get (i := i) (d := es[i]) (by simp [i2])
  rw [e1] at h1
  cases h1
  rw [e2] at k1
  cases k1
  refine ⟨.tup [ds[i], es[i]], by simp [List.getElem?_map, List.getElem?_zip_eq_some, i1, i2], w2.newX nT, w2.newW nT, T, [v, z], rfl, SqT.of upd_same, _, _, rfl, (w2.newX nT).rp (e.rp ⟨_, wc.cup⟩ (fun a z => (hB a z).1) (fun a z k => (hB a k).2 z.1) h2), _, _, rfl, (w2.newX nT).rp (e.rp ⟨_, wc.cup⟩ (fun a z => (hB a z).1) (fun a z k => (hB a k).2 z.1) k2), rfl⟩
theorem pi_zip' (h : XOk p f wd nw pr n X m) {elts : List Expr} {kk : Nat} {tpos : Pos} {a b : Ex} {x y : Expr} {fi : Str} {q pos : Pos} (hf : fi = "zip") (hg : Ev.glb m.sc fi = true) (hm : X.mg fi = none) (ha : PE X x (tE (gx X f) C wd nw call W a)) (hb : PE X y (tE (gx X f) C wd nw call W b)) (hs : starless x = true) (hs2 : starless y = true) :
    PI X (.Tuple elts kk tpos) (.Call (.Name fi q) [x, y] [] pos) (tI (gx X f) C wd nw call W (.zip a b)) := by
  subst hf
  refine piImp (RZ.pi_zipA (h.glb hg) hm (pa_cons ha (pa_cons hb pa_nil (star_of hs2)) (star_of hs)) (star_of hs) (by rw [star_of hs2]; rfl)) fun σ H R q => ?_
  obtain ⟨env, u, A, rel, w, o⟩ := q
  rw [evE] at o
  have rel' : RelE (gx X f) C H A env σ (a.fv ++ b.fv) := rel
  refine ⟨env, u, A, rel'.left, w, o.bind.imp fun d u1 o1 v H1 po => ?_⟩
  refine ⟨env, u1, A, rel'.right.ext po.ext, po.wd, (o1.bind.up po.ext).imp fun d2 u2 o2 w2 H2 ps => ?_⟩
  have rx := ps.ext.rp po.rp
  have ry := ps.rp.mono (A' := fun a => A a ∨ NL H a) fun a ha => ha.elim .inl fun n => .inr (po.ext.free a n)
  have fin : ∀ {xs : List D}, Out (gx X f) C W σ H (.ok (.lst xs) u2 : Re D) (fun d u' => ∃ xs, d.items = some xs ∧ ∀ J H1, Ext C H H1 → Wd (gx X f) C H1 u' → Gives (gx X f) C H H1 A xs J → R J H1) → ∀ J, Gives (gx X f) C H H2 A xs J → R J H2 := fun {xs} o J gv => by
    obtain ⟨ys, ey, k⟩ := o
    cases ey
    exact k J H2 (po.ext.trans ps.ext) ps.wd gv
  cases d <;> cases d2 <;> first | exact o2.elim | skip
  · obtain ⟨a1, vs, rfl, h1, h2⟩ := rx
    obtain ⟨b1, ws, rfl, k1, k2⟩ := ry
    exact ⟨a1, b1, vs, ws, rfl, .inr ⟨h1, k1, fin o2 _ (gives_zip ps.wd (walk_zipT rfl) (fun B H3 hB e => ⟨e.sqT ⟨_, ps.wd.cup⟩ (fun a z => (hB a z).1) h1, e.sqT ⟨_, ps.wd.cup⟩ (fun a z => (hB a z).1) k1⟩) h2 k2)⟩⟩
  · obtain ⟨a1, vs, rfl, h1, h3, h4, h2⟩ := rx
    obtain ⟨b1, ws, rfl, k1, k3, k4, k2⟩ := ry
    exact ⟨a1, b1, vs, ws, rfl, .inl ⟨SqL.of h1, SqL.of k1, fin o2 _ (gives_zip ps.wd (walk_zip rfl) (fun B H3 hB e => ⟨e.sqL h1 h4 fun z => (hB _ z).2 h3, e.sqL k1 k4 fun z => (hB _ z).2 k3⟩) h2 k2)⟩⟩
end
end Ev

/-! Comprehensions. -/
namespace Ev
open PySem PySem.Spec PyProof.Rows L2 LamX
section
variable {p : PC} {f : Fx} {wd : Words} {nw : Str} {pr : List FD} {n : Nat} {X : Cx} {m : MC} {C : Addr} {W : WX} {call : Nat → List D → Cup → Re D}
theorem peImpL {X : Cx} {e : Expr} {t t' : TE} (h : PE X e t) (k : ∀ σ H Q, σ.length = X.N.length → t' σ H Q → t σ H Q) : PE X e t' := ⟨fun pins s σ H Q I q => h.run pins s σ H Q I (k σ H Q I.len q)⟩
theorem psImpL {X : Cx} {s : Stmt} {t t' : TS} (h : PS X s t) (k : ∀ D σ H, σ.length = X.N.length → t' D σ H → t D σ H) : PS X s t' := ⟨fun pins s σ H D I q => h.run pins s σ H D I (k D σ H I.len q)⟩
theorem wipeE_at {env : En} {i : Nat} : ∀ {vs : List Nat}, (i ∈ vs → (wipeE env vs)[i]? = none ∨ (wipeE env vs)[i]? = some none) ∧ (i ∉ vs → (wipeE env vs)[i]? = env[i]?)
  | [] => ⟨fun h => by simp at h, fun _ => rfl⟩
  | v :: vs => by
    have ih := wipeE_at (env := env) (i := i) (vs := vs)
    refine ⟨fun h => ?_, fun h => ?_⟩
    · unfold wipeE
      by_cases hv : v = i
      · subst hv
        by_cases hl : v < (wipeE env vs).length
        · rw [List.getElem?_set_self hl]
          exact .inr rfl
        · rw [List.getElem?_eq_none (by rw [List.length_set]; omega)]
          exact .inl rfl
      · rw [List.getElem?_set_ne hv]
        exact ih.1 ((List.mem_cons.mp h).resolve_left fun e => hv e.symm)
    · rw [List.mem_cons, not_or] at h
      unfold wipeE
      rw [List.getElem?_set_ne fun e => h.1 e.symm]
      exact ih.2 h.2
theorem wipe_at {σ : L2.St} {i : Nat} : ∀ {vs : List Nat}, i ∈ vs → i < σ.length → (wipe σ vs)[i]? = some none
  | [], h, _ => by simp at h
  | v :: vs, h, hl => by
    unfold wipe
    by_cases hv : v = i
    · subst hv
      rw [List.getElem?_set_self (by rw [wipe_length]; exact hl)]
    · rw [List.getElem?_set_ne hv]
      exact wipe_at ((List.mem_cons.mp h).resolve_left fun e => hv e.symm) hl
theorem wipe_eq {σ σ2 : L2.St} {vs : List Nat} (hl : σ2.length = σ.length) (h : ∀ i, i ∉ vs → σ2[i]? = σ[i]?) : wipe σ2 vs = wipe σ vs := by
  apply List.ext_getElem?
  intro i
  by_cases hi : i ∈ vs
  · by_cases hb : i < σ.length
    · rw [wipe_at hi hb, wipe_at hi (by omega)]
    · rw [List.getElem?_eq_none (by rw [wipe_length]; omega), List.getElem?_eq_none (by rw [wipe_length]; omega)]
  · rw [wipe_out hi, wipe_out hi, h i hi]
theorem wipe_idem {σ : L2.St} {vs : List Nat} : wipe (wipe σ vs) vs = wipe σ vs := wipe_eq (wipe_length σ vs) fun i hi => wipe_out hi
/-- the tests of a comprehension -/
theorem pts_ok {ifs : List Ex} {xs : List Expr} (hp : Paired (fun e x => PT X x (tT (gx X f) C wd nw call W e)) ifs xs) (hl : xs.length ≤ 1) : PTs X xs (tTB (gx X f) C wd nw call W .And ifs) := by
  cases hp with
  | nil =>
    refine ⟨fun pins s σ H Q I q => pts_nil.run pins s σ H Q I ?_⟩
    obtain ⟨env, u, A, rel, w, o⟩ := q
    simp only [evB] at o
    obtain ⟨b, e, h⟩ := o
    cases e
    exact h H w.refl w
  | cons h r =>
    cases r with
    | cons _ _ => simp at hl
    | nil =>
      refine ⟨fun pins s σ H Q I q => (pts_one h).run pins s σ H Q I ?_⟩
      obtain ⟨env, u, A, rel, w, o⟩ := q
      rw [evB] at o
      refine ⟨env, u, A, rel.left, w, o.bind.imp fun d u1 o1 => ?_⟩
      cases d with
      | bl b => cases b with
        | true => (simp only [evB] at o1; exact o1)
        | false => exact o1
      | _ => exact o1.elim
theorem ownP_ix {own : List Nat} : (ownP m own).map (·.2) = own := by
  unfold ownP
  rw [List.map_map]
  exact List.map_id' own
abbrev W0 : WX := fun _ _ _ _ => False
/-- one turn, as the evaluator says -/
def turnE (wd : Words) (nw : Str) (call : Nat → List D → Cup → Re D) (own : List Nat) (tg : Tg) (ifs : List Ex) (elt : Ex) (env : En) (d : D) (u2 : Cup) : Re (Option D) := match tg.put d (wipeE env own) with
  | some env2 => (evB wd nw call .And ifs env2 u2).bind fun t u3 => match t with
    | .bl true => (evE wd nw call elt env2 u3).bind fun y u4 => .ok (some y) u4
    | .bl false => .ok none u3
    | _ => .bad
  | none => .bad
theorem evE_lc {own : List Nat} {tg : Tg} {src : Ex} {ifs : List Ex} {elt : Ex} {env : En} {u : Cup} : evE wd nw call (.lc own tg src ifs elt) env u = (evE wd nw call src env u).bind fun x u1 => match x.items with
    | some xs => noExc ((lcLoop (turnE wd nw call own tg ifs elt env) xs u1).bind fun ys u5 => if xs.length ≤ big then .ok (.lst ys) u5 else .bad)
    | none => .bad := by
  rw [evE]
  rfl
theorem lc_len {F : D → Cup → Re (Option D)} : ∀ {xs : List D} {u u5 : Cup} {ys : List D}, lcLoop F xs u = .ok ys u5 → ys.length ≤ xs.length
  | [], u, u5, ys, h => by
    simp only [lcLoop] at h
    cases h
    simp
  | x :: xs, u, u5, ys, h => by
    simp only [lcLoop] at h
    cases e : F x u with
    | ok y u1 =>
      rw [e] at h
      simp only [Re.bind] at h
      cases e2 : lcLoop F xs u1 with
      | ok zs u2 =>
        rw [e2] at h
        have ih := lc_len e2
        cases y <;> (cases h; simp [optCons]; omega)
      | exc _ _ => rw [e2] at h; cases h
      | bad => rw [e2] at h; cases h
    | exc _ _ => rw [e] at h; cases h
    | bad => rw [e] at h; cases h
theorem lc_imp {own : List Nat} {tg : Tg} {src elt : Ex} {ifs : List Ex} (hsub : ∀ i ∈ tg.slots, i ∈ own) {σ : L2.St} {H : Hp} {Q : VK} (q : tE (gx X f) C wd nw call W (.lc own tg src ifs elt) σ H Q) :
    tLc (tI (gx X f) C wd nw call W src) (tG (gx X f) C tg) (tTB (gx X f) C wd nw call W0 .And ifs) (tE (gx X f) C wd nw call W0 elt) ((ownP m own).map (·.2)) σ H Q := by
  obtain ⟨env, u, A, rel, w, o⟩ := q
  rw [evE_lc] at o
  have rel' : RelE (gx X f) C H A env σ (src.fv ++ (Ex.fvs ifs ++ elt.fv).filter fun i => !own.contains i) := rel
  rw [ownP_ix]
  refine ⟨env, u, A, rel'.left, w, o.bind.imp fun d u1 o1 => ?_⟩
  cases ed : d.items with
  | none =>
    simp only [ed] at o1
    exact o1.elim
  | some xs =>
    simp only [ed] at o1
    refine ⟨xs, rfl, fun J H1 e1 w1 gv D nD => ?_⟩
    obtain ⟨Gd, Y, wk, hG, hY⟩ := gv
    cases eL : lcLoop (turnE wd nw call own tg ifs elt env) xs u1 with
    | exc k u5 => rw [eL] at o1; exact o1.elim
    | bad => rw [eL] at o1; exact o1.elim
    | ok ys u5 =>
    rw [eL] at o1
    simp only [Re.bind] at o1
    split at o1
    case isFalse => exact o1.elim
    case isTrue hbig =>
    have o1 : ∀ v' H', Post (gx X f) C H A true (.lst ys) u5 v' H' → Q v' H' := o1
    have nDC : D ≠ C := (ne_of_none w1.cup nD).symm
    refine lc_it wk (fun i H2 => ∃ (acc : List V) (ds zs : List Ev.D) (u2 : Cup), Ext C H1 H2 ∧ Wd (gx X f) C H2 u2 ∧ H2 D = some (.lst acc) ∧ Rps (gx X f) C H2 (fun a => (A a ∨ NL H a) ∧ a ≠ D) ds acc ∧ ds.length ≤ i ∧ lcLoop (turnE wd nw call own tg ifs elt env) (xs.drop i) u2 = .ok zs u5 ∧ ys = ds ++ zs)
      ⟨[], [], ys, u1, w1.newX nD, w1.newW nD, upd_same, rfl, Nat.le_refl _, by rw [List.drop_zero]; exact eL, rfl⟩ (fun i H2 _ ⟨_, _, _, _, e2, _⟩ => hG (fun _ => False) H2 (fun _ z => z.elim) e2.toB) ?_ ?_
    · rintro i x H2 H3 hi ⟨acc, ds, zs, u2, e2, w2, hD, hr, hlen, hL, hys⟩ y
      obtain ⟨d1, hd1, e3, w3, r3⟩ := hY (fun _ => False) i H2 x H3 u2 (fun _ z => z.elim) hi e2.toB w2 y
      have ed1 : d1 = xs[i] := by
        rw [List.getElem?_eq_getElem hi] at hd1
        exact (Option.some.inj hd1).symm
      rw [List.drop_eq_getElem_cons hi, ← ed1] at hL
      simp only [lcLoop] at hL
      cases eT : turnE wd nw call own tg ifs elt env d1 u2 with
      | exc _ _ => rw [eT] at hL; cases hL
      | bad => rw [eT] at hL; cases hL
      | ok yo u3 =>
      rw [eT] at hL
      simp only [Re.bind] at hL
      cases eL2 : lcLoop (turnE wd nw call own tg ifs elt env) (xs.drop (i + 1)) u3 with
      | exc _ _ => rw [eL2] at hL; cases hL
      | bad => rw [eL2] at hL; cases hL
      | ok zs2 u6 =>
      rw [eL2] at hL
      simp only at hL
      have eu : u6 = u5 := by cases hL; rfl
      have ez : zs = optCons yo zs2 := by cases hL; rfl
      rw [eu] at eL2
      unfold turnE at eT
      cases eP : tg.put d1 (wipeE env own) with
      | none => rw [eP] at eT; cases eT
      | some env2 =>
      rw [eP] at eT
      simp only at eT
      have E3 : Ext C H1 H3 := e2.trans e3
      have E03 : Ext C H H3 := e1.trans E3
      have hD3 : H3 D = some (.lst acc) := e3.lst hD nDC
      have nDH : NL H D := e1.free D (NL.of nD)
      -- the target
      refine ⟨fun a => (A a ∨ NL H a) ∧ ¬ NL H1 a, d1, wipeE env own, env2, r3, eP, fun σ2 pr => ?_⟩
      refine ⟨by rw [← wipe_idem (σ := σ)]; exact wipe_eq pr.len fun i hi => (pr.off i fun hm => hi (hsub i hm)).2, ?_⟩
      -- the slots behind it
      have rel2 : RelE (gx X f) C H3 (fun a => ((A a ∨ NL H a) ∧ a ≠ D)) env2 σ2 (Ex.fvs ifs ++ elt.fv) := fun j hj b d e => by
        rcases pr.on j b d e with ⟨k1, k2⟩ | ⟨_, v, k2, k3⟩
        · by_cases hjo : j ∈ own
          · rcases (wipeE_at (env := env)).1 hjo with z | z <;> (rw [z] at k1; cases k1)
          · rw [(wipeE_at (env := env)).2 hjo] at k1
            obtain ⟨v, k3, k4⟩ := rel'.right j (List.mem_filter.mpr ⟨hj, by simpa using hjo⟩) b d k1
            refine ⟨v, by rw [k2, wipe_out hjo]; exact k3, E03.rp (k4.tight.mono fun a ha => ⟨.inl ha.1, fun z => ha.2 (by rw [z]; exact nDH)⟩)⟩
        · exact ⟨v, k2, k3.mono fun a ha => ⟨ha.1, fun z => ha.2 (by rw [z]; exact NL.of nD)⟩⟩
      -- the tests
      refine ⟨env2, u2, _, rel2.left, w3, ?_⟩
      cases eB : evB wd nw call .And ifs env2 u2 with
      | exc _ _ => rw [eB] at eT; cases eT
      | bad => rw [eB] at eT; cases eT
      | ok t u4 =>
      rw [eB] at eT
      simp only [Re.bind] at eT
      cases t with
      | bl b =>
        refine ⟨b, rfl, fun H4 e4 w4 => ?_⟩
        have hD4 : H4 D = some (.lst acc) := e4.lst hD3 nDC
        have hr4 := e4.rps (e3.rps hr)
        cases b with
        | false =>
          simp only at eT
          refine iteF ?_
          have ey : yo = none := by cases eT; rfl
          have eu3 : u3 = u4 := by cases eT; rfl
          subst ey
          subst eu3
          exact ⟨acc, ds, zs2, _, E3.trans e4, w4, hD4, hr4, by omega, eL2, by rw [hys, ez]; rfl⟩
        | true =>
          simp only at eT
          refine iteT ?_
          refine ⟨env2, u4, _, rel2.right.ext e4, w4, ?_⟩
          cases eE : evE wd nw call elt env2 u4 with
          | exc _ _ => rw [eE] at eT; cases eT
          | bad => rw [eE] at eT; cases eT
          | ok z u7 =>
          rw [eE] at eT
          simp only [Re.bind] at eT
          have ey : yo = some z := by cases eT; rfl
          have eu3 : u3 = u7 := by cases eT; rfl
          subst ey
          subst eu3
          intro v H5 po
          have hD5 : H5 D = some (.lst acc) := po.ext.lst hD4 nDC
          have la : ds.length = acc.length := hr.length
          refine ⟨acc, hD5, ?_, acc ++ [v], ds ++ [z], zs2, _, ?_, ?_, upd_same, ?_, ?_, eL2, ?_⟩
          · have := big_le
            have : xs.length ≤ big := hbig
            omega
          · have E5 := (E3.trans e4).trans po.ext
            refine ⟨E5.cup, ⟨_, by rw [upd_ne nDC.symm]; exact po.wd.cup⟩, fun b o hb n1 n2 => ?_⟩
            rw [upd_ne (ne_of_none hb nD)]
            exact E5.keep b o hb n1 n2
          · refine ⟨by rw [upd_ne nDC.symm]; exact po.wd.cup, fun q hq => ?_⟩
            obtain ⟨ps, a1, a2, a3⟩ := po.wd.tabs q hq
            refine ⟨ps, by rw [upd_ne (fun z => by rw [z, hD5] at a1; cases a1)]; exact a1, a2, fun ps' cv hcv => ?_⟩
            obtain ⟨c0, b1, b2⟩ := a3 ps' cv hcv
            exact ⟨c0, b1, by rw [upd_ne (fun z => by rw [z, hD5] at b2; unfold CodeO at b2; cases b2)]; exact b2⟩
          · have mv : ∀ {d : List Ev.D} {vs : List V}, Rps (gx X f) C H5 (fun a => (A a ∨ NL H a) ∧ a ≠ D) d vs → Rps (gx X f) C (upd H5 D (.lst (acc ++ [v]))) (fun a => (A a ∨ NL H a) ∧ a ≠ D) d vs := fun {d vs} r => Rps.move (fun a vs k => by
              rcases k with (k | ⟨o, k⟩) | k
              · exact .inl (.inl (by rw [upd_ne (fun z => by rw [z, hD5] at k; cases k)]; exact k))
              · exact .inl (.inr ⟨o, by rw [upd_ne (fun z => by rw [z, hD5] at k; cases k)]; exact k⟩)
              · exact .inr k) (fun a vs k1 k2 _ => ⟨by rw [upd_ne k2.2]; exact k1, k2⟩) d vs r
            refine mv (Rps.app (po.ext.rps hr4) (Rps.one (po.rp.mono fun a ha => ?_)))
            rcases ha with ha | ha
            · exact ha
            · have ea : a ≠ D := fun z => by
                rw [z] at ha
                exact ha _ hD4
              exact ⟨.inr (E03.free a (e4.free a ha)), ea⟩
          · rw [List.length_append]
            simp
            omega
          · rw [hys, ez]
            simp [optCons]
      | _ => cases eT
    · rintro H2 ⟨acc, ds, zs, u2, e2, w2, hD, hr, hlen, hL, hys⟩
      rw [List.drop_length] at hL
      simp only [lcLoop] at hL
      have ez : zs = [] := by cases hL; rfl
      have eu : u2 = u5 := by cases hL; rfl
      subst ez
      subst eu
      rw [List.append_nil] at hys
      subst hys
      refine o1 _ _ ⟨e1.trans e2, w2, ⟨D, acc, rfl, hD, .inr (e1.free D (NL.of nD)), nDC, hr.mono fun a ha => ha.1⟩, fun _ _ _ p e => ?_⟩
      cases e
      exact e1.free D (NL.of nD)
theorem pe_lc' (h : XOk p f wd nw pr n X m) (hh : m.hot = false) {own : List Nat} {tg : Tg} {src elt : Ex} {ifs : List Ex} {tg' it' elt' : Expr} {ifs' : List Expr} {scope : Scope} {pos : Pos} (hi : PI X tg' it' (tI (gx X f) C wd nw call W src)) (ok : blkC m.N m.sc scope (ownP m own) = true)
    (hsub : ∀ i ∈ tg.slots, i ∈ own) (hown : ∀ i ∈ own, i < m.N.length)
    (hg : ∀ (s : Shared) (H : Hp) (D : Addr) (cl : List (Str × Addr)) (fp : List Addr), PG (X.blk s H scope (compEnvC scope cl D X.env) fp) tg' (tG (gx X f) C tg))
    (ht : ∀ (s : Shared) (H : Hp) (D : Addr) (cl : List (Str × Addr)) (fp : List Addr), PTs (X.blk s H scope (compEnvC scope cl D X.env) fp) ifs' (tTB (gx X f) C wd nw call W0 .And ifs))
    (he : ∀ (s : Shared) (H : Hp) (D : Addr) (cl : List (Str × Addr)) (fp : List Addr), PE (X.blk s H scope (compEnvC scope cl D X.env) fp) elt' (tE (gx X f) C wd nw call W0 elt)) (hs : starless it' = true) :
    PE X (.ListComp elt' [⟨tg', it', ifs', 0⟩] scope pos) (tE (gx X f) C wd nw call W (.lc own tg src ifs elt)) := by
  have okB : BlkOk X.N X.env.scope scope (ownP m own) := by
    rw [h.N, h.sc]
    exact blkOk_by ok
  exact peImp (pe_lc (h.calm hh) h.nd hi okB hg ht he (fun x => by cases it' <;> first | rfl | cases hs)) fun σ H Q q => lc_imp hsub q
theorem ps_setLc' (h : XOk p f wd nw pr n X m) (hh : m.hot = false) (hk : m.sc.kind = .function) {i : Nat} {y : Str} {own : List Nat} {tg : Tg} {src elt : Ex} {ifs : List Ex} {tg' it' elt' : Expr} {ifs' : List Expr} {scope : Scope} {py pos spos : Pos} (hy : m.N[i]? = some y) (hl : m.sc.names.lookup y = some .local)
    (hline : (py.line == pos.line) = true) (hown2 : (scope.names.any fun (n, k) => n == y && (k == .local || k == .cell)) = false) (hi : PI X tg' it' (tI (gx X f) C wd nw call W src)) (ok : blkC m.N m.sc scope (ownP m own) = true)
    (hsub : ∀ i ∈ tg.slots, i ∈ own)
    (hg : ∀ (s : Shared) (H : Hp) (D : Addr) (cl : List (Str × Addr)) (fp : List Addr), PG (X.blk s H scope (compEnvC scope cl D X.env) fp) tg' (tG (gx X f) C tg))
    (ht : ∀ (s : Shared) (H : Hp) (D : Addr) (cl : List (Str × Addr)) (fp : List Addr), PTs (X.blk s H scope (compEnvC scope cl D X.env) fp) ifs' (tTB (gx X f) C wd nw call W0 .And ifs))
    (he : ∀ (s : Shared) (H : Hp) (D : Addr) (cl : List (Str × Addr)) (fp : List Addr), PE (X.blk s H scope (compEnvC scope cl D X.env) fp) elt' (tE (gx X f) C wd nw call W0 elt)) (hs : starless it' = true) :
    PS X (.Assign [.Name y py] (.ListComp elt' [⟨tg', it', ifs', 0⟩] scope pos) spos) (tAsg (tE (gx X f) C wd nw call W (.lc own tg src ifs elt)) (gName i)) := by
  have okB : BlkOk X.N X.env.scope scope (ownP m own) := by
    rw [h.N, h.sc]
    exact blkOk_by ok
  have hl' : X.env.scope.names.lookup y = some .local := by rw [h.sc]; exact hl
  have hk' : X.env.scope.kind = .function := by rw [h.sc]; exact hk
  refine psImpL (ps_setLc (h.calm hh) h.nd (i := i) (by rw [h.N]; exact hy) hl' (sw_true hk' hl' hline hown2) hi okB hg ht he (fun x => by cases it' <;> first | rfl | cases hs)) fun D σ H len q => ?_
  exact lc_imp hsub q
theorem pe_lcH' (h : XOk p f wd nw pr n X m) (hh : m.hot = true) {own : List Nat} {tg : Tg} {src elt : Ex} {ifs : List Ex} {tg' it' elt' : Expr} {ifs' : List Expr} {scope : Scope} {pos : Pos} (hi : L2H.PIH X tg' it' (tI (gx X f) C wd nw call W src)) (ok : blkC m.N m.sc scope (ownP m own) = true)
    (hsub : ∀ i ∈ tg.slots, i ∈ own) (hown : ∀ i ∈ own, i < m.N.length)
    (hg : ∀ (p0 : Addr × Obj), L2H.Hot1 X.A p0 → ∀ (s : Shared) (H : Hp) (D : Addr) (cl : List (Str × Addr)) (fp : List Addr), PG (EvHot.blkH X p0 s H scope (compEnvC scope cl D X.env) fp) tg' (tG (gx X f) C tg))
    (ht : ∀ (p0 : Addr × Obj), L2H.Hot1 X.A p0 → ∀ (s : Shared) (H : Hp) (D : Addr) (cl : List (Str × Addr)) (fp : List Addr), PTs (EvHot.blkH X p0 s H scope (compEnvC scope cl D X.env) fp) ifs' (tTB (gx X f) C wd nw call W0 .And ifs))
    (he : ∀ (p0 : Addr × Obj), L2H.Hot1 X.A p0 → ∀ (s : Shared) (H : Hp) (D : Addr) (cl : List (Str × Addr)) (fp : List Addr), PE (EvHot.blkH X p0 s H scope (compEnvC scope cl D X.env) fp) elt' (tE (gx X f) C wd nw call W0 elt)) (hs : starless it' = true) :
    PE X (.ListComp elt' [⟨tg', it', ifs', 0⟩] scope pos) (tE (gx X f) C wd nw call W (.lc own tg src ifs elt)) := by
  have okB : BlkOk X.N X.env.scope scope (ownP m own) := by
    rw [h.N, h.sc]
    exact blkOk_by ok
  exact peImp (EvHot.pe_lcH (h.hot hh) h.nd hi okB hg ht he (fun x => by cases it' <;> first | rfl | cases hs)) fun σ H Q q => lc_imp hsub q
theorem ps_setLcH' (h : XOk p f wd nw pr n X m) (hh : m.hot = true) (hk : m.sc.kind = .function) {i : Nat} {y : Str} {own : List Nat} {tg : Tg} {src elt : Ex} {ifs : List Ex} {tg' it' elt' : Expr} {ifs' : List Expr} {scope : Scope} {py pos spos : Pos} (hy : m.N[i]? = some y) (hl : m.sc.names.lookup y = some .local)
    (hline : (py.line == pos.line) = true) (hown2 : (scope.names.any fun (n, k) => n == y && (k == .local || k == .cell)) = false) (hi : L2H.PIH X tg' it' (tI (gx X f) C wd nw call W src)) (ok : blkC m.N m.sc scope (ownP m own) = true)
    (hsub : ∀ i ∈ tg.slots, i ∈ own)
    (hg : ∀ (p0 : Addr × Obj), L2H.Hot1 X.A p0 → ∀ (s : Shared) (H : Hp) (D : Addr) (cl : List (Str × Addr)) (fp : List Addr), PG (EvHot.blkH X p0 s H scope (compEnvC scope cl D X.env) fp) tg' (tG (gx X f) C tg))
    (ht : ∀ (p0 : Addr × Obj), L2H.Hot1 X.A p0 → ∀ (s : Shared) (H : Hp) (D : Addr) (cl : List (Str × Addr)) (fp : List Addr), PTs (EvHot.blkH X p0 s H scope (compEnvC scope cl D X.env) fp) ifs' (tTB (gx X f) C wd nw call W0 .And ifs))
    (he : ∀ (p0 : Addr × Obj), L2H.Hot1 X.A p0 → ∀ (s : Shared) (H : Hp) (D : Addr) (cl : List (Str × Addr)) (fp : List Addr), PE (EvHot.blkH X p0 s H scope (compEnvC scope cl D X.env) fp) elt' (tE (gx X f) C wd nw call W0 elt)) (hs : starless it' = true) :
    PS X (.Assign [.Name y py] (.ListComp elt' [⟨tg', it', ifs', 0⟩] scope pos) spos) (tAsg (tE (gx X f) C wd nw call W (.lc own tg src ifs elt)) (gName i)) := by
  have okB : BlkOk X.N X.env.scope scope (ownP m own) := by
    rw [h.N, h.sc]
    exact blkOk_by ok
  have hl' : X.env.scope.names.lookup y = some .local := by rw [h.sc]; exact hl
  have hk' : X.env.scope.kind = .function := by rw [h.sc]; exact hk
  refine psImpL (EvHot.ps_setLcH (h.hot hh) h.nd (i := i) (by rw [h.N]; exact hy) hl' (sw_true hk' hl' hline hown2) hi okB hg ht he (fun x => by cases it' <;> first | rfl | cases hs)) fun D σ H len q => ?_
  exact lc_imp hsub q
end
end Ev

/-! The law's own word for an error; every expression. -/
namespace Ev
open PySem PySem.Spec PyProof.Rows L2 LamX
section
variable {p : PC} {f : Fx} {wd : Words} {nw : Str} {pr : List FD} {n : Nat} {X : Cx} {m : MC} {C : Addr} {W : WX} {call : Nat → List D → Cup → Re D}
theorem noArgs_of {ps : Arguments} (h : noArgs ps = true) : ps = ⟨[], [], none, [], [], none, []⟩ := by
  unfold noArgs at h
  split at h
  · rfl
  · cases h
theorem pe_err' (h : XOk p f wd nw pr n X m) (her : m.er = true) (hh : m.hot = false) {e : Ex} {ps : Arguments} {body : Expr} {scope : Scope} {q lpos pos : Pos} (hg : Ev.glb m.sc p.er = true) (ho : okN p.er = true) (hn : noArgs ps = true) (hl : lamSB m.sc scope = true)
    (hbody : ∀ (A : Around) (outer : List Env) (s : Shared) (H : Hp) (E : XK) (f' c' : Addr), Room (3 * n) (A.deeper (lamEnv X scope s.heap.objs.size f' c')) → PE (LamN.lamCx X A outer s H E scope f' c') body (tE (gx X f) C wd nw call (fun cls d _ H => E cls d H) e)) :
    PE X (.Call (.Name p.er q) [.Lambda ps body scope lpos] [] pos) (tE (gx X f) C wd nw call W (.err e)) := by
  obtain ⟨ge, c, P, pg, bg, sg, dV, kV, doc, pm, cdv, ct, oc, an, od, osl, Ng, a, h1, h2, h3, h4, h5, h6, h7, h8, h9, h10, h11, h12, h13, h14, h15, h16⟩ := h.er her hh
  obtain rfl := noArgs_of hn
  refine peImp (LamN.pe_lamcall (TT := TTe (gx X f) C wd nw) (t := fun E => tE (gx X f) C wd nw call (fun cls d _ H => E cls d H) e) (h.glb hg) h1 h2 h3 h4 h5 h6 h7 h8 (h11 C) h12 h13 h14 h15 h16 (lamS_by (by rw [h.sc]; exact hl)) rfl (fun _ _ _ _ _ => rfl) hbody (okN_of ho).1 h9 h10) fun σ H Q q => ?_
  obtain ⟨env, u, A, rel, w, o⟩ := q
  rw [evE] at o
  refine ⟨w.tabs, fun H1 eN T1 => ?_⟩
  have w1 : Wd (gx X f) C H1 u := ⟨eN _ _ w.cup (fun ps z => by cases z), T1⟩
  have e1 : Ext C H H1 := ⟨⟨_, w.cup⟩, ⟨_, w1.cup⟩, fun b o hb _ nt => eN b o hb nt⟩
  refine ⟨env, u, A, rel.ext e1, w1, ?_⟩
  cases eE : evE wd nw call e env u with
  | ok d u1 =>
    rw [eE] at o
    exact fun v H' po => o _ _ ⟨e1.trans po.ext, po.wd, rfl, fun z => by cases z⟩
  | exc k u1 =>
    rw [eE] at o
    refine fun H' eh wh => ⟨rfl, k, ?_⟩
    cases ew : wd k with
    | none =>
      simp only [ew] at o
      exact o.elim
    | some x =>
      simp only [ew] at o
      refine ⟨x, u1, rfl, rfl, wh, fun H'' kx kw => o _ _ ⟨(e1.trans eh).trans kx, kw, rfl, fun z => by cases z⟩⟩
  | bad =>
    rw [eE] at o
    exact o
/-- a name of a block that the look knows -/
theorem XOk.blk (h : XOk p f wd nw pr n X m) (hh : m.hot = false) {s : Shared} {H : Hp} {scope : Scope} {cl : List (Str × Addr)} {D : Addr} {fp : List Addr} (hk : m.sc.kind = .function) : XOk p f wd nw pr n (X.blk s H scope (compEnvC scope cl D X.env) fp) (m.blk scope) where
  N := h.N
  nd := h.nd
  sc := by
    show relabel scope X.env = relS scope m.sc
    rw [← h.sc]
    rfl
  calm := h.calm
  room := h.room
  hot := fun z => by
    have z' : m.hot = true := z
    rw [hh] at z'
    cases z'
  fn := h.fn
  kn := h.kn
  bt := h.bt
  gcd := h.gcd
  gc := h.gc
  isx := fun z1 z2 => by
    have z3 : m.hot = true := z1
    have z4 : (m.er && !m.hot) = true := z2
    rw [z3] at z4
    simp at z4
  er := fun z zh => by
    have z : m.er = true := by
      have z4 : (m.er && !m.hot) = true := z
      rw [Bool.and_eq_true] at z4
      exact z4.1
    obtain ⟨ge, c, P, pg, bg, sg, dV, kV, doc, pm, cdv, ct, oc, an, od, osl, Ng, a, h1, h2, h3, h4, h5, h6, h7, h8, h9, h10, h11, h12, h13, h14, h15, h16⟩ := h.er z zh
    exact ⟨ge, c, P, pg, bg, sg, dV, kV, doc, pm, cdv, ct, oc, an, od, osl, Ng, a, h1, h2, h3, h4, h5, h6, h7, h8, h9, h10, h11, h12, h13, h14, h15, h16⟩
/-- a name of a block that the look knows -/
theorem XOk.blkH (h : XOk p f wd nw pr n X m) (hh : m.hot = true) {p0 : Addr × Obj} (h0 : L2H.Hot1 X.A p0) {s : Shared} {H : Hp} {scope : Scope} {cl : List (Str × Addr)} {D : Addr} {fp : List Addr} (hk : m.sc.kind = .function) : XOk p f wd nw pr n (EvHot.blkH X p0 s H scope (compEnvC scope cl D X.env) fp) (m.blk scope) where
  N := h.N
  nd := h.nd
  sc := by
    show relabel scope X.env = relS scope m.sc
    rw [← h.sc]
    rfl
  calm := h.calm
  room := h.room
  hot := fun _ => EvHot.blkH_hot h0
  fn := h.fn
  kn := h.kn
  bt := h.bt
  gcd := h.gcd
  gc := h.gc
  isx := fun z1 z2 => by
    have z3 : m.hot = true := z1
    have z4 : (m.er && !m.hot) = true := z2
    rw [z3] at z4
    simp at z4
  er := fun z zh => by
    have z : m.er = true := by
      have z4 : (m.er && !m.hot) = true := z
      rw [Bool.and_eq_true] at z4
      exact z4.1
    obtain ⟨ge, c, P, pg, bg, sg, dV, kV, doc, pm, cdv, ct, oc, an, od, osl, Ng, a, h1, h2, h3, h4, h5, h6, h7, h8, h9, h10, h11, h12, h13, h14, h15, h16⟩ := h.er z zh
    exact ⟨ge, c, P, pg, bg, sg, dV, kV, doc, pm, cdv, ct, oc, an, od, osl, Ng, a, h1, h2, h3, h4, h5, h6, h7, h8, h9, h10, h11, h12, h13, h14, h15, h16⟩
theorem XOk.lam (h : XOk p f wd nw pr n X m) {A : Around} {outer : List Env} {s : Shared} {H : Hp} {E : XK} {scope : Scope} {f' c' : Addr} (hr : Room (3 * n) (A.deeper (lamEnv X scope s.heap.objs.size f' c'))) : XOk p f wd nw pr n (LamN.lamCx X A outer s H E scope f' c') ⟨m.N, scope, false, false⟩ where
  N := h.N
  nd := h.nd
  sc := rfl
  calm := fun _ => rfl
  room := fun _ => hr
  hot := fun z => by cases z
  fn := h.fn
  kn := h.kn
  bt := h.bt
  gcd := h.gcd
  gc := h.gc
  isx := fun z => by cases z
  er := fun z => by cases z
theorem keep_cell {sc scope : Scope} {x : Str} {k : NameKind} (hk : k ≠ .free) (h : scope.names.lookup x = some k) : (relS scope sc).names.lookup x = some k := lookup_relS_keep hk h
theorem bt_of (h : XOk p f wd nw pr n X m) {x : Str} (e : (p.bt.any fun y => decide (y = x)) = true) : X.mg x = none := by
  rw [List.any_eq_true] at e
  obtain ⟨y, hy, e⟩ := e
  rw [decide_eq_true_eq] at e
  rw [← e]
  exact h.bt y hy
end

/-! ### every expression -/
section
variable {p : PC} {f : Fx} {wd : Words} {nw : Str} {pr : List FD} {n : Nat}
/-- plain truth -/
theorem pt_plain {X : Cx} {C : Addr} {W : WX} {call : Nat → List D → Cup → Re D} {e : Ex} {x : Expr} (h : PE X x (tE (gx X f) C wd nw call W e)) (he : ∀ whole, isTrue x X.env whole = (do let v ← whole; standAt x.pos; holding [v] (truthy v))) : PT X x (tT (gx X f) C wd nw call W e) :=
  ptImp (pt_val h he) fun σ H Q q => tT_tE q
def EOk (p : PC) (f : Fx) (wd : Words) (nw : Str) (pr : List FD) (n : Nat) (e : Ex) : Prop := ∀ (X : Cx) (m : MC) (C : Addr) (W : WX) (x : Expr), m.sc.kind = .function → XOk p f wd nw pr n X m → L2N.Takes X W → e.val = true → mE p m e x = true →
  PE X x (tE (gx X f) C wd nw (run wd nw pr n) W e) ∧ PT X x (tT (gx X f) C wd nw (run wd nw pr n) W e)
def LOk (p : PC) (f : Fx) (wd : Words) (nw : Str) (pr : List FD) (n : Nat) (es : List Ex) : Prop := ∀ (X : Cx) (m : MC) (C : Addr) (W : WX) (xs : List Expr), m.sc.kind = .function → XOk p f wd nw pr n X m → L2N.Takes X W → mL p m es xs = true →
  PA X xs (tL (gx X f) C wd nw (run wd nw pr n) W es) ∧ Paired (fun e x => PE X x (tE (gx X f) C wd nw (run wd nw pr n) W e)) es xs ∧ Paired (fun e x => PT X x (tT (gx X f) C wd nw (run wd nw pr n) W e)) es xs
/-- what is walked -/
theorem src_ok {src : Ex} {m : MC} {X : Cx} {C : Addr} {W : WX} {tg x : Expr} (hk : m.sc.kind = .function) (h : XOk p f wd nw pr n X m) (tk : L2N.Takes X W) (hv : src.val = true → EOk p f wd nw pr n src) (hr : ∀ a, src = .rng a → EOk p f wd nw pr n a) (hz : ∀ a b, src = .zip a b → EOk p f wd nw pr n a ∧ EOk p f wd nw pr n b)
    (e : mE p m src x = true) (ez : (!src.isZip || isTup tg) = true) : PI X tg x (tI (gx X f) C wd nw (run wd nw pr n) W src) := by
  by_cases v : src.val = true
  · exact pi_val' (hv v X m C W x hk h tk v e).1
  · cases src with
    | rng a =>
      cases x with
      | Call fn xs ks pos =>
        cases fn <;> first | (simp [mE] at e; done) | skip
        cases ks with
        | cons _ _ => cases xs <;> simp [mE] at e
        | nil =>
        cases xs with
        | nil => simp [mE] at e
        | cons y ys =>
        cases ys with
        | cons _ _ => simp [mE] at e
        | nil =>
        simp only [mE, Bool.and_eq_true, decide_eq_true_eq] at e
        obtain ⟨⟨⟨e1, e2⟩, e3⟩, e4, e5⟩ := e
        exact pi_rng' h e1 e2 (bt_of h e3) (hr a rfl X m C W y hk h tk e4 e5).1 (mE_starless e5)
      | _ => simp [mE] at e
    | zip a b =>
      cases tg <;> first | (simp [Ex.isZip, isTup] at ez; done) | skip
      cases x with
      | Call fn xs ks pos =>
        cases fn <;> first | (simp [mE] at e; done) | skip
        cases ks with
        | cons _ _ => simp [mE] at e
        | nil =>
        cases xs with
        | nil => simp [mE] at e
        | cons y ys =>
        cases ys with
        | nil => simp [mE] at e
        | cons z zs =>
        cases zs with
        | cons _ _ => simp [mE] at e
        | nil =>
        simp only [mE, Bool.and_eq_true, decide_eq_true_eq] at e
        obtain ⟨⟨⟨⟨e1, e2⟩, e3⟩, e4, e5⟩, e6, e7⟩ := e
        exact pi_zip' h e1 e2 (bt_of h e3) ((hz a b rfl).1 X m C W y hk h tk e4 e5).1 ((hz a b rfl).2 X m C W z hk h tk e6 e7).1 (mE_starless e5) (mE_starless e7)
      | _ => simp [mE] at e
    | _ => exact absurd rfl v
end
end Ev

/-! Every expression keeps its reading. -/
namespace Ev
open PySem PySem.Spec PyProof.Rows L2 LamX
section
variable {p : PC} {f : Fx} {wd : Words} {nw : Str} {pr : List FD} {n : Nat}
theorem own_sub {own js : List Nat} (h : (js.all fun i => own.contains i) = true) : ∀ i ∈ js, i ∈ own := fun i hi => by simpa using List.all_eq_true.mp h i hi
theorem own_lt {own : List Nat} {k : Nat} (h : (own.all fun i => decide (i < k)) = true) : ∀ i ∈ own, i < k := fun i hi => by simpa using List.all_eq_true.mp h i hi
theorem loc_of {X : Cx} {m : MC} (h : XOk p f wd nw pr n X m) {s : Shared} {H : Hp} {scope : Scope} {cl : List (Str × Addr)} {D : Addr} {fp : List Addr} (x : Str) (e : loccell scope x = true) :
    Loc (X.blk s H scope (compEnvC scope cl D X.env) fp).env.scope x ∧ ((X.blk s H scope (compEnvC scope cl D X.env) fp).fn x = true ∨ (X.blk s H scope (compEnvC scope cl D X.env) fp).env.scope.names.lookup x = some .local) := by
  have rl : ∀ {k : NameKind}, k ≠ .free → scope.names.lookup x = some k → (X.blk s H scope (compEnvC scope cl D X.env) fp).env.scope.names.lookup x = some k := fun {k} hk q => by
    show (relabel scope X.env).names.lookup x = some k
    have z : (relS scope X.env.scope).names.lookup x = some k := lookup_relS_keep hk q
    exact z
  unfold loccell at e
  split at e
  · rename_i q
    exact ⟨.inl (rl (by decide) q), .inr (rl (by decide) q)⟩
  · rename_i q
    refine ⟨.inr (rl (by decide) q), .inl ?_⟩
    show (scope.names.lookup x == some .cell) = true
    rw [q]
    rfl
  · cases e
theorem rp {X : Cx} {C : Addr} {W : WX} {call : Nat → List D → Cup → Re D} {e : Ex} {x : Expr} (h : PE X x (tE (gx X f) C wd nw call W e)) (he : ∀ whole, isTrue x X.env whole = (do let v ← whole; standAt x.pos; holding [v] (truthy v))) :
    PE X x (tE (gx X f) C wd nw call W e) ∧ PT X x (tT (gx X f) C wd nw call W e) := ⟨h, pt_plain h he⟩
mutual
theorem e_ok : ∀ e : Ex, EOk p f wd nw pr n e
  | .v i => fun X m C W x hk h tk hv e => by
    cases x <;> first | (cases e; done) | skip
    exact ⟨pe_v h e, pt_plain (pe_v h e) (fun _ => rfl)⟩
  | .c d => fun X m C W x hk h tk hv e => by
    cases x <;> first | (cases e; done) | skip
    have e' : cstOk d _ = true := e
    exact ⟨pe_c e', pt_plain (pe_c e') (fun _ => rfl)⟩
  | .g y d => fun X m C W x hk h tk hv e => by
    cases x <;> first | (cases e; done) | skip
    exact ⟨pe_g h e, pt_plain (pe_g h e) (fun _ => rfl)⟩
  | .f k => fun X m C W x hk h tk hv e => by
    cases x <;> first | (cases e; done) | skip
    exact ⟨pe_f h e, pt_plain (pe_f h e) (fun _ => rfl)⟩
  | .tup es => fun X m C W x hk h tk hv e => by
    cases x <;> first | (cases e; done) | skip
    exact rp (pe_tup' (l_ok es X m C W _ hk h tk e).1) (fun _ => rfl)
  | .lst es => fun X m C W x hk h tk hv e => by
    cases x <;> first | (cases e; done) | skip
    exact rp (pe_lst' (l_ok es X m C W _ hk h tk e).1) (fun _ => rfl)
  | .bin o a b => fun X m C W x hk h tk hv e => by
    cases x <;> first | (cases e; done) | skip
    simp only [mE, Bool.and_eq_true, decide_eq_true_eq] at e
    obtain ⟨⟨e1, e2, e3⟩, e4, e5⟩ := e
    subst e1
    exact rp (pe_bin' (o := o) (e_ok a X m C W _ hk h tk e2 e3).1 (e_ok b X m C W _ hk h tk e4 e5).1) (fun _ => rfl)
  | .neg a => fun X m C W x hk h tk hv e => by
    cases x <;> first | (cases e; done) | skip
    rename_i op _ _
    cases op <;> first | (cases e; done) | skip
    simp only [mE, Bool.and_eq_true] at e
    exact rp (pe_neg' (e_ok a X m C W _ hk h tk e.1 e.2).1) (fun _ => rfl)
  | .not a => fun X m C W x hk h tk hv e => by
    cases x <;> first | (cases e; done) | skip
    rename_i op _ _
    cases op <;> first | (cases e; done) | skip
    simp only [mE, Bool.and_eq_true] at e
    have r := e_ok a X m C W _ hk h tk e.1 e.2
    exact ⟨pe_not' r.1, pt_not' r.2⟩
  | .cmp o a b => fun X m C W x hk h tk hv e => by
    cases x <;> first | (cases e; done) | skip
    rename_i l ops cs _
    cases ops with
    | nil => cases e
    | cons op ops =>
    cases ops with
    | cons _ _ => cases e
    | nil =>
    cases cs with
    | nil => cases e
    | cons y cs =>
    cases cs with
    | cons _ _ => cases e
    | nil =>
    simp only [mE, Bool.and_eq_true, decide_eq_true_eq, Bool.not_eq_true'] at e
    obtain ⟨⟨⟨e1, e2, e3⟩, e4, e5⟩, hh⟩ := e
    subst e1
    have ra := (e_ok a X m C W _ hk h tk e2 e3).1
    have rb := (e_ok b X m C W _ hk h tk e4 e5).1
    exact ⟨pe_cmp' (h.room hh) ra rb (mE_starless e5), pt_cmp' (h.room hh) ra rb (mE_starless e5)⟩
  | .ch o o2 a b c => fun X m C W x hk h tk hv e => by
    cases x <;> first | (cases e; done) | skip
    rename_i l ops cs _
    cases ops with
    | nil => cases e
    | cons op ops =>
    cases ops with
    | nil => cases e
    | cons op2 ops =>
    cases ops with
    | cons _ _ => cases e
    | nil =>
    cases cs with
    | nil => cases e
    | cons y cs =>
    cases cs with
    | nil => cases e
    | cons z cs =>
    cases cs with
    | cons _ _ => cases e
    | nil =>
    simp only [mE, Bool.and_eq_true, decide_eq_true_eq, Bool.not_eq_true'] at e
    obtain ⟨⟨⟨⟨⟨⟨⟨⟨⟨e1, e2⟩, e3, e4⟩, e5, e6⟩, e7, e8⟩, _⟩, _⟩, _⟩, _⟩, hh⟩ := e
    subst e1
    subst e2
    have ra := (e_ok a X m C W _ hk h tk e3 e4).1
    have rb := (e_ok b X m C W _ hk h tk e5 e6).1
    have rc := (e_ok c X m C W _ hk h tk e7 e8).1
    exact ⟨pe_ch' (h.room hh) ra rb rc (mE_starless e8), pt_ch' (h.room hh) ra rb rc (mE_starless e8)⟩
  | .bop o es => fun X m C W x hk h tk hv e => by
    cases x <;> first | (cases e; done) | skip
    simp only [mE, Bool.and_eq_true, decide_eq_true_eq, Bool.not_eq_true'] at e
    obtain ⟨⟨e1, e2⟩, e3⟩ := e
    subst e1
    have r := l_ok es X m C W _ hk h tk e2
    exact ⟨pe_bop' (fun z => by rw [z] at e3; cases e3) r.2.1, pt_bop' (fun z => by rw [z] at e3; cases e3) r.2.2⟩
  | .ite c a b => fun X m C W x hk h tk hv e => by
    cases x <;> first | (cases e; done) | skip
    simp only [mE, Bool.and_eq_true] at e
    obtain ⟨⟨⟨e1, e2⟩, e3, e4⟩, e5, e6⟩ := e
    have rc := e_ok c X m C W _ hk h tk e1 e2
    have ra := e_ok a X m C W _ hk h tk e3 e4
    have rb := e_ok b X m C W _ hk h tk e5 e6
    exact ⟨pe_ite' rc.2 ra.1 rb.1, pt_ite' rc.2 ra.2 rb.2⟩
  | .ix a b => fun X m C W x hk h tk hv e => by
    cases x <;> first | (cases e; done) | skip
    simp only [mE, Bool.and_eq_true] at e
    obtain ⟨⟨e1, e2⟩, e3, e4⟩ := e
    exact rp (pe_ix' (e_ok a X m C W _ hk h tk e1 e2).1 (e_ok b X m C W _ hk h tk e3 e4).1 (mE_starless e4)) (fun _ => rfl)
  | .call k es => fun X m C W x hk h tk hv e => by
    cases x <;> first | (cases e; done) | skip
    rename_i fn xs ks pos
    cases fn <;> first | (cases e; done) | skip
    cases ks with
    | cons _ _ => cases e
    | nil =>
    simp only [mE, Bool.and_eq_true, decide_eq_true_eq, Bool.not_eq_true'] at e
    obtain ⟨⟨⟨⟨e1, e2⟩, e3⟩, e4⟩, hh⟩ := e
    exact rp (pe_call' (pos := pos) h hh tk e1 e2 e3 (l_ok es X m C W _ hk h tk e4).1 e4) (fun _ => rfl)
  | .callv i es => fun X m C W x hk h tk hv e => by
    cases x <;> first | (cases e; done) | skip
    rename_i fn xs ks pos
    cases fn <;> first | (cases e; done) | skip
    cases ks with
    | cons _ _ => cases e
    | nil =>
    simp only [mE, Bool.and_eq_true, decide_eq_true_eq, Bool.not_eq_true'] at e
    obtain ⟨⟨⟨⟨⟨e1, e2⟩, e3⟩, e4⟩, e5⟩, hh⟩ := e
    exact rp (pe_callv' (pos := pos) h hh tk e1 e2 e3 (l_ok es X m C W _ hk h tk e4).1 e4 (fun z => by rw [z] at e5; cases e5)) (fun _ => rfl)
  | .bi b es => fun X m C W x hk h tk hv e => by
    cases x <;> first | (cases e; done) | skip
    rename_i fn xs ks pos
    cases fn <;> first | (cases e; done) | skip
    cases ks with
    | cons _ _ => cases e
    | nil =>
    simp only [mE, Bool.and_eq_true, decide_eq_true_eq, Bool.not_eq_true', Bool.or_eq_true] at e
    obtain ⟨⟨⟨⟨⟨e1, e2⟩, e3⟩, e4⟩, e5⟩, hh⟩ := e
    exact rp (pe_bi' (pos := pos) h hh e1 e2 (e3.imp id (bt_of h)) (l_ok es X m C W _ hk h tk e4).1 e4 (fun z => by rw [z] at e5; cases e5)) (fun _ => rfl)
  | .isi a t => fun X m C W x hk h tk hv e => by
    cases x <;> first | (cases e; done) | skip
    rename_i fn xs ks pos
    cases fn <;> first | (cases e; done) | skip
    cases xs with
    | nil => cases e
    | cons y xs =>
    cases xs with
    | nil => cases e
    | cons z xs =>
    cases z <;> first | (cases e; done) | skip
    cases xs with
    | cons _ _ => cases e
    | nil =>
    cases ks with
    | cons _ _ => cases e
    | nil =>
    simp only [mE, Bool.and_eq_true, decide_eq_true_eq] at e
    obtain ⟨⟨⟨⟨⟨⟨e1, e2⟩, e3⟩, e4⟩, e5⟩, e6⟩, e7, e8⟩ := e
    exact rp (pe_isi' (pos := pos) h e1 e2 (bt_of h e3) e4 e5 (bt_of h e6) (e_ok a X m C W _ hk h tk e7 e8).1 (mE_starless e8)) (fun _ => rfl)
  | .rng a => fun X m C W x hk h tk hv e => by cases hv
  | .zip a b => fun X m C W x hk h tk hv e => by cases hv
  | .lc own tg src ifs elt => fun X m C W x hk h tk hv e => by
    cases x <;> first | (cases e; done) | skip
    rename_i elt' gs scope pos
    cases gs with
    | nil => cases e
    | cons g0 gs =>
    obtain ⟨tg', it', ifs', as⟩ := g0
    cases gs with
    | cons _ _ => simp [mE] at e
    | nil =>
    by_cases h0 : as = 0
    case neg => simp [mE, h0] at e
    subst h0
    simp only [mE, Bool.and_eq_true] at e
    obtain ⟨⟨⟨⟨⟨⟨⟨⟨⟨e1, e2⟩, e3⟩, e4⟩, e5⟩, e6⟩, e7⟩, e8⟩, e9, e10⟩, e11⟩ := e
    have hk' : (m.blk scope).sc.kind = .function := by
      have z := (blkOk_by e1).kind
      exact z
    cases hh : m.hot with
    | false =>
      exact rp (pe_lc' (W := W) (C := C) (pos := pos) h hh (src_ok hk h tk (fun _ => e_ok src) (fun a ea => by subst ea; exact e_ok a) (fun a b ea => by subst ea; exact ⟨e_ok a, e_ok b⟩) e5 e6) e1 (own_sub e2) (own_lt e3)
        (fun s H D cl fp => pg_ok (X := X.blk s H scope (compEnvC scope cl D X.env) fp) (f := f) (C := C) (m := ⟨m.N, scope, m.er, m.hot⟩) h.N h.nd (.inl (h.calm hh)) (fun y hy => loc_of h y hy) tg tg' e4)
        (fun s H D cl fp => pts_ok (l_ok ifs (X.blk s H scope (compEnvC scope cl D X.env) fp) (m.blk scope) C W0 ifs' hk' (h.blk hh hk) LamN.takes0 e7).2.2 (of_decide_eq_true e8))
        (fun s H D cl fp => (e_ok elt (X.blk s H scope (compEnvC scope cl D X.env) fp) (m.blk scope) C W0 elt' hk' (h.blk hh hk) LamN.takes0 e9 e10).1) (mE_starless e5)) (fun _ => rfl)
    | true =>
      have hv2 : src.val = true := by simpa [hh] using e11
      exact rp (pe_lcH' (W := W) (C := C) (pos := pos) h hh (pi_valH' (e_ok src X m C W it' hk h tk hv2 e5).1) e1 (own_sub e2) (own_lt e3)
        (fun p0 h0 s H D cl fp => pg_ok (X := EvHot.blkH X p0 s H scope (compEnvC scope cl D X.env) fp) (f := f) (C := C) (m := ⟨m.N, scope, m.er, m.hot⟩) h.N h.nd (.inr (EvHot.blkH_hot h0)) (fun y hy => loc_of h (s := s) (H := H) (cl := cl) (D := D) (fp := fp) y hy) tg tg' e4)
        (fun p0 h0 s H D cl fp => pts_ok (l_ok ifs (EvHot.blkH X p0 s H scope (compEnvC scope cl D X.env) fp) (m.blk scope) C W0 ifs' hk' (h.blkH hh h0 hk) LamN.takes0 e7).2.2 (of_decide_eq_true e8))
        (fun p0 h0 s H D cl fp => (e_ok elt (EvHot.blkH X p0 s H scope (compEnvC scope cl D X.env) fp) (m.blk scope) C W0 elt' hk' (h.blkH hh h0 hk) LamN.takes0 e9 e10).1) (mE_starless e5)) (fun _ => rfl)
  | .err e0 => fun X m C W x hk h tk hv e => by
    cases x <;> first | (cases e; done) | skip
    rename_i fn xs ks pos
    cases fn <;> first | (cases e; done) | skip
    cases xs with
    | nil => cases e
    | cons y xs =>
    cases y <;> first | (cases e; done) | skip
    cases xs with
    | cons _ _ => cases e
    | nil =>
    cases ks with
    | cons _ _ => cases e
    | nil =>
    simp only [mE, Bool.and_eq_true, decide_eq_true_eq, Bool.not_eq_true'] at e
    obtain ⟨⟨⟨⟨⟨⟨⟨e1, e2⟩, e3⟩, e4⟩, e5⟩, e6⟩, e7, e8⟩, hh⟩ := e
    subst e2
    exact rp (pe_err' (C := C) (W := W) (pos := pos) h e1 hh e3 e4 e5 e6 (fun A outer s H E f' c' hr => by
      have L := lamS_by e6
      exact (e_ok e0 (LamN.lamCx X A outer s H E _ f' c') ⟨m.N, _, false, false⟩ C _ _ L.kind (h.lam hr) (L2N.takes_of rfl rfl rfl rfl) e7 e8).1)) (fun _ => rfl)
  | .isE i t k => fun X m C W x hk h tk hv e => by
    cases x <;> first | (cases e; done) | skip
    rename_i fn xs ks pos
    cases fn <;> first | (cases e; done) | skip
    cases xs with
    | nil => cases e
    | cons y xs =>
    cases y <;> first | (cases e; done) | skip
    cases xs with
    | nil => cases e
    | cons z xs =>
    cases z <;> first | (cases e; done) | skip
    cases xs with
    | cons _ _ => cases e
    | nil =>
    cases ks with
    | cons _ _ => cases e
    | nil =>
    simp only [mE, Bool.and_eq_true, decide_eq_true_eq] at e
    obtain ⟨⟨⟨⟨⟨⟨⟨⟨⟨⟨⟨e1, e2⟩, e3⟩, e4⟩, e5⟩, e6⟩, e7⟩, e8⟩, e9⟩, e10⟩, e11⟩, e12⟩ := e
    exact rp (pe_isE' (pos := pos) h e1 e2 e3 e4 (bt_of h e5) e6 e7 e8 e9 e10 e11 e12) (fun _ => rfl)
  | .join a b => fun X m C W x hk h tk hv e => by
    cases x <;> first | (cases e; done) | skip
    rename_i fn xs ks pos
    cases fn <;> first | (cases e; done) | skip
    rename_i o attr apos
    cases o <;> first | (cases e; done) | skip
    cases xs with
    | nil => cases e
    | cons y xs =>
    cases xs with
    | cons _ _ => cases e
    | nil =>
    cases ks with
    | cons _ _ => cases e
    | nil =>
    simp only [mE, Bool.and_eq_true, decide_eq_true_eq] at e
    obtain ⟨⟨⟨e1, e2, e3⟩, e4, e5⟩, e6⟩ := e
    subst e1
    exact rp (pe_join' (e_ok a X m C W _ hk h tk e2 e3).1 (e_ok b X m C W _ hk h tk e4 e5).1 (mE_starless e5) e6) (fun _ => rfl)
theorem l_ok : ∀ es : List Ex, LOk p f wd nw pr n es
  | [] => fun X m C W xs hk h tk e => by
    cases xs with
    | cons _ _ => cases e
    | nil => exact ⟨pa_nil', .nil, .nil⟩
  | a :: es => fun X m C W xs hk h tk e => by
    cases xs with
    | nil => cases e
    | cons x xs =>
    simp only [mL, Bool.and_eq_true] at e
    obtain ⟨⟨e1, e2⟩, e3⟩ := e
    have r := e_ok a X m C W x hk h tk e1 e2
    have rs := l_ok es X m C W xs hk h tk e3
    exact ⟨pa_cons' r.1 rs.1 (mE_starless e2), .cons r.1 rs.2.1, .cons r.2 rs.2.2⟩
end
end
end Ev

/-! Statements: the relation, the look, the readings. -/
namespace Ev
open PySem PySem.Spec PyProof.Rows L2 LamX

/-- the frame's slots and the heap beside the evaluator's slots. Since the heap H0 the lists at B, and new ones, may have changed; F: the lists that stay; ow i: the list that slot i alone holds -/
structure SRw (g : G) (C : Addr) (A0 B : Addr → Prop) (H0 : Hp) (F : Addr → Prop) (ow : Nat → Addr) (env : En) (σ : L2.St) (H : Hp) : Prop where
  ext : ExtB C B H0 H
  fr : ∀ a, F a → (A0 a ∨ B a ∨ NL H0 a)
  old : ∀ (i : Nat) (d : D), env[i]? = some (some (false, d)) → ∃ v, σ[i]? = some (some v) ∧ Rp g C H F d v
  own : ∀ (i : Nat) (d : D), env[i]? = some (some (true, d)) → ∃ ds vs, d = .lst ds ∧ σ[i]? = some (some (.ref (ow i))) ∧ H (ow i) = some (.lst vs) ∧ ow i ≠ C ∧ ¬ F (ow i) ∧ (B (ow i) ∨ NL H0 (ow i)) ∧ D.flats ds = true ∧ Rps g C H F ds vs
  dis : ∀ (i j : Nat) (d d' : D), env[i]? = some (some (true, d)) → env[j]? = some (some (true, d')) → i ≠ j → ow i ≠ ow j
def SRel (g : G) (C : Addr) (A0 B : Addr → Prop) (H0 : Hp) (env : En) (σ : L2.St) (H : Hp) : Prop := ∃ F ow, SRw g C A0 B H0 F ow env σ H
section
variable {g : G} {C : Addr} {A0 B : Addr → Prop} {H0 H H' : Hp} {F : Addr → Prop} {ow : Nat → Addr} {env : En} {σ : L2.St}
/-- what an expression reads -/
def AOf (env : En) (ow : Nat → Addr) (F : Addr → Prop) (H : Hp) (is : List Nat) (a : Addr) : Prop := (F a ∧ ¬ NL H a) ∨ ∃ i ∈ is, (∃ d, env[i]? = some (some (true, d))) ∧ a = ow i
theorem SRw.relE (h : SRw g C A0 B H0 F ow env σ H) (is : List Nat) : RelE g C H (AOf env ow F H is) env σ is := fun i hi b d e => by
  cases b with
  | false =>
    obtain ⟨v, h1, h2⟩ := h.old i d e
    exact ⟨v, h1, h2.tight.mono fun a ha => .inl ha⟩
  | true =>
    obtain ⟨ds, vs, rfl, h1, h2, h3, h4, h5, h6, h7⟩ := h.own i d e
    exact ⟨_, h1, ow i, vs, rfl, h2, .inr ⟨i, hi, ⟨_, e⟩, rfl⟩, h3, Rps.ofFlat _ _ h6 h7⟩
theorem freeze_at {is : List Nat} {i : Nat} : (freeze is env)[i]? = (env[i]?).map (frz is i) := by
  unfold freeze
  rw [List.getElem?_mapIdx]
theorem freeze_false {is : List Nat} {i : Nat} {d : D} (e : (freeze is env)[i]? = some (some (false, d))) : env[i]? = some (some (false, d)) ∨ (i ∈ is ∧ env[i]? = some (some (true, d))) := by
  rw [freeze_at] at e
  cases h : env[i]? with
  | none => rw [h] at e; cases e
  | some s =>
    rw [h] at e
    cases s with
    | none => cases e
    | some q =>
      obtain ⟨b, d'⟩ := q
      simp only [Option.map_some, frz, Option.some.injEq, Prod.mk.injEq] at e
      obtain ⟨e1, e2⟩ := e
      subst e2
      cases b with
      | false => exact .inl rfl
      | true => exact .inr ⟨by simpa using e1, rfl⟩
theorem freeze_true {is : List Nat} {i : Nat} {d : D} (e : (freeze is env)[i]? = some (some (true, d))) : i ∉ is ∧ env[i]? = some (some (true, d)) := by
  rw [freeze_at] at e
  cases h : env[i]? with
  | none => rw [h] at e; cases e
  | some s =>
    rw [h] at e
    cases s with
    | none => cases e
    | some q =>
      obtain ⟨b, d'⟩ := q
      simp only [Option.map_some, frz, Option.some.injEq, Prod.mk.injEq, Bool.and_eq_true] at e
      obtain ⟨⟨e1, e3⟩, e2⟩ := e
      subst e2
      subst e1
      exact ⟨by simpa using e3, rfl⟩
/-- the heap has grown -/
theorem SRw.ext' (h : SRw g C A0 B H0 F ow env σ H) (x : Ext C H H') (hc : ∀ a, B a → (∃ vs, H0 a = some (.lst vs))) : SRw g C A0 B H0 (fun a => F a ∧ ¬ NL H a) ow env σ H' := by
  refine ⟨⟨fun b o k n nb m => x.keep b o (h.ext.keep b o k n nb m) n m, fun b vs k => ?_⟩, fun a ha => h.fr a ha.1, fun i d e => ?_, fun i d e => ?_, h.dis⟩
  · obtain ⟨ws, k2⟩ := h.ext.lst b vs k
    exact (x.toB (B := fun _ => False)).lst b ws k2
  · obtain ⟨v, h1, h2⟩ := h.old i d e
    exact ⟨v, h1, x.rp h2.tight⟩
  · obtain ⟨ds, vs, e1, h1, h2, h3, h4, h5, h6, h7⟩ := h.own i d e
    exact ⟨ds, vs, e1, h1, x.lst h2 h3, h3, fun z => h4 z.1, h5, h6, Rps.ofFlat _ _ h6 (x.rps h7)⟩
/-- slots are held fast: the lists that an expression reads, and new ones, stay -/
theorem SRw.fast (h : SRw g C A0 B H0 F ow env σ H) (x : Ext C H H') (is : List Nat) : SRw g C A0 B H0 (fun a => AOf env ow F H is a ∨ NL H a) ow (freeze is env) σ H' := by
  have nA : ∀ i d, (freeze is env)[i]? = some (some (true, d)) → ¬ (AOf env ow F H is (ow i) ∨ NL H (ow i)) := fun i d e => by
    obtain ⟨e1, e2⟩ := freeze_true e
    obtain ⟨ds, vs, _, h1, h2, h3, h4, h5, h6, h7⟩ := h.own i d e2
    rintro ((z | ⟨j, hj, ⟨d', ed⟩, z⟩) | z)
    · exact h4 z.1
    · by_cases hij : i = j
      · exact e1 (hij ▸ hj)
      · exact h.dis i j d d' e2 ed hij z
    · exact z vs h2
  refine ⟨⟨fun b o k n nb m => x.keep b o (h.ext.keep b o k n nb m) n m, fun b vs k => ?_⟩, fun a ha => ?_, fun i d e => ?_, fun i d e => ?_, fun i j d d' e e' => h.dis i j d d' (freeze_true e).2 (freeze_true e').2⟩
  · obtain ⟨ws, k2⟩ := h.ext.lst b vs k
    exact (x.toB (B := fun _ => False)).lst b ws k2
  · rcases ha with (z | ⟨j, hj, ⟨d', ed⟩, rfl⟩) | z
    · exact h.fr a z.1
    · obtain ⟨_, _, _, _, _, _, _, h5, _⟩ := h.own j d' ed
      exact h5.elim (fun q => .inr (.inl q)) fun q => .inr (.inr q)
    · exact .inr (.inr (h.ext.free a z))
  · rcases freeze_false e with e1 | ⟨hi, e1⟩
    · obtain ⟨v, h1, h2⟩ := h.old i d e1
      exact ⟨v, h1, (x.rp h2.tight).mono fun a ha => .inl (.inl ha)⟩
    · obtain ⟨ds, vs, rfl, h1, h2, h3, h4, h5, h6, h7⟩ := h.own i d e1
      exact ⟨_, h1, ow i, vs, rfl, x.lst h2 h3, .inl (.inr ⟨i, hi, ⟨_, e1⟩, rfl⟩), h3, Rps.ofFlat _ _ h6 (x.rps h7)⟩
  · obtain ⟨ds, vs, e1, h1, h2, h3, h4, h5, h6, h7⟩ := h.own i d (freeze_true e).2
    exact ⟨ds, vs, e1, h1, x.lst h2 h3, h3, nA i d e, h5, h6, Rps.ofFlat _ _ h6 (x.rps h7)⟩
/-- the value of an expression, ready to be kept -/
def Keep (g : G) (C : Addr) (B : Addr → Prop) (H0 H' : Hp) (F : Addr → Prop) (ow : Nat → Addr) (env : En) (b : Bool) (d : D) (v : V) : Prop :=
  (b = false → Rp g C H' F d v) ∧ (b = true → ∃ ds p vs, d = .lst ds ∧ v = .ref p ∧ H' p = some (.lst vs) ∧ p ≠ C ∧ ¬ F p ∧ (B p ∨ NL H0 p) ∧ D.flats ds = true ∧ Rps g C H' F ds vs ∧ ∀ (j : Nat) d', env[j]? = some (some (true, d')) → ow j ≠ p)
theorem ownable_of {d : D} (h : d.ownable = true) : ∃ ds, d = .lst ds ∧ D.flats ds = true := by
  cases d <;> first | cases h | exact ⟨_, rfl, h⟩
theorem SRw.afterOk (h : SRw g C A0 B H0 F ow env σ H) (hc : ∀ a, B a → (∃ vs, H0 a = some (.lst vs))) {e : Ex} {d : D} {u : Cup} {v : V} {A : Addr → Prop} (po : Post g C H A e.fresh d u v H') (hf : (d.flat || (e.fresh && d.ownable)) = true) :
    SRw g C A0 B H0 (fun a => F a ∧ ¬ NL H a) ow env σ H' ∧ Keep g C B H0 H' (fun a => F a ∧ ¬ NL H a) ow env (e.fresh && d.ownable) d v := by
  refine ⟨h.ext' po.ext hc, fun eb => ?_, fun eb => ?_⟩
  · have fl : d.flat = true := by
      rw [eb, Bool.or_false] at hf
      exact hf
    exact Rp.ofFlat _ _ fl po.rp
  · rw [Bool.and_eq_true] at eb
    obtain ⟨ds, rfl, fl⟩ := ownable_of eb.2
    obtain ⟨p, vs, rfl, h1, h2, h3, h4⟩ := po.rp
    have np := po.fr eb.1 ds rfl p rfl
    refine ⟨ds, p, vs, rfl, rfl, h1, h3, fun z => z.2 np, .inr (h.ext.free p np), fl, Rps.ofFlat _ _ fl h4, fun j d' e' z => ?_⟩
    obtain ⟨_, ws, _, _, k, _⟩ := h.own j d' e'
    rw [z] at k
    exact np ws k
theorem SRw.after (h : SRw g C A0 B H0 F ow env σ H) (hc : ∀ a, B a → (∃ vs, H0 a = some (.lst vs))) {e : Ex} {d : D} {u : Cup} {v : V} (po : Post g C H (AOf env ow F H e.fv) e.fresh d u v H') :
    ∃ F', SRw g C A0 B H0 F' ow (after e d env) σ H' ∧ Keep g C B H0 H' F' ow (after e d env) (e.fresh && d.ownable) d v := by
  unfold Ev.after
  split
  · rename_i hf
    exact ⟨_, h.afterOk hc po hf⟩
  · rename_i hf
    refine ⟨_, h.fast po.ext e.fv, fun eb => po.rp, fun eb => ?_⟩
    exfalso
    apply hf
    rw [eb, Bool.or_true]
/-- whose list a slot holds, once it is set -/
def owSet (b : Bool) (v : V) (i : Nat) (ow : Nat → Addr) : Nat → Addr := fun l => if b = true ∧ l = i then (match v with | .ref p => p | _ => 0) else ow l
theorem SRw.setW (h : SRw g C A0 B H0 F ow env σ H) {i : Nat} {b : Bool} {d : D} {v : V} (hi : i < σ.length) (k : Keep g C B H0 H F ow env b d v) : SRw g C A0 B H0 F (owSet b v i ow) (env.set i (some (b, d))) (σ.set i (some v)) H := by
  have at_ : ∀ {j : Nat} {b' : Bool} {d' : D}, (env.set i (some (b, d)))[j]? = some (some (b', d')) → (j = i ∧ b' = b ∧ d' = d) ∨ (j ≠ i ∧ env[j]? = some (some (b', d'))) := fun {j b' d'} e => by
    by_cases hj : i = j
    · subst hj
      by_cases hl : i < env.length
      · rw [List.getElem?_set_self hl] at e
        cases e
        exact .inl ⟨rfl, rfl, rfl⟩
      · rw [List.getElem?_eq_none (by rw [List.length_set]; omega)] at e
        cases e
    · rw [List.getElem?_set_ne hj] at e
      exact .inr ⟨fun z => hj z.symm, e⟩
  have ne : ∀ {j : Nat}, j ≠ i → owSet b v i ow j = ow j := fun {j} n => if_neg fun z => n z.2
  refine ⟨h.ext, h.fr, fun j d' e => ?_, fun j d' e => ?_, fun j l d1 d2 e1 e2 n => ?_⟩
  · rcases at_ e with ⟨rfl, z, rfl⟩ | ⟨n, e⟩
    · exact ⟨v, List.getElem?_set_self hi, k.1 z.symm⟩
    · obtain ⟨w, h1, h2⟩ := h.old j d' e
      exact ⟨w, by rw [List.getElem?_set_ne fun z => n z.symm]; exact h1, h2⟩
  · rcases at_ e with ⟨rfl, z, rfl⟩ | ⟨n, e⟩
    · obtain ⟨ds, p, vs, rfl, rfl, k1, k2, k3, k4, k5, k6, k7⟩ := k.2 z.symm
      have eo : owSet b (.ref p) j ow j = p := if_pos ⟨z.symm, rfl⟩
      refine ⟨ds, vs, rfl, ?_⟩
      rw [eo]
      exact ⟨List.getElem?_set_self hi, k1, k2, k3, k4, k5, k6⟩
    · obtain ⟨ds', vs', e1, h1, h2⟩ := h.own j d' e
      refine ⟨ds', vs', e1, ?_⟩
      rw [ne n]
      exact ⟨by rw [List.getElem?_set_ne fun z => n z.symm]; exact h1, h2⟩
  · have self : ∀ {d' : D}, true = b → ∃ p, owSet b v i ow i = p ∧ ∀ (j : Nat) d', env[j]? = some (some (true, d')) → ow j ≠ p := fun {d'} z => by
      obtain ⟨ds, p, vs, rfl, rfl, k1, k2, k3, k4, k5, k6, k7⟩ := k.2 z.symm
      exact ⟨p, if_pos ⟨z.symm, rfl⟩, k7⟩
    rcases at_ e1 with ⟨z1, zb, _⟩ | ⟨n1, e1'⟩
    · rcases at_ e2 with ⟨z2, _, _⟩ | ⟨n2, e2'⟩
      · exact absurd (z1.trans z2.symm) n
      · obtain ⟨p, q1, q2⟩ := self (d' := d1) zb
        rw [z1, q1, ne n2]
        exact (q2 l d2 e2').symm
    · rcases at_ e2 with ⟨z2, zb, _⟩ | ⟨n2, e2'⟩
      · obtain ⟨p, q1, q2⟩ := self (d' := d1) zb
        rw [z2, q1, ne n1]
        exact q2 j d1 e1'
      · rw [ne n1, ne n2]
        exact h.dis j l d1 d2 e1' e2' n
theorem SRw.set (h : SRw g C A0 B H0 F ow env σ H) {i : Nat} {b : Bool} {d : D} {v : V} (hi : i < σ.length) (k : Keep g C B H0 H F ow env b d v) : SRel g C A0 B H0 (env.set i (some (b, d))) (σ.set i (some v)) H := ⟨F, _, h.setW hi k⟩
/-- another value beside one that was set -/
theorem Keep.next {i : Nat} {b1 b : Bool} {d1 d : D} {v1 v : V} (k1 : Keep g C B H0 H F ow env b1 d1 v1) (k : Keep g C B H0 H F ow env b d v) (n : b1 = true → b = true → v1 ≠ v) : Keep g C B H0 H F (owSet b1 v1 i ow) (env.set i (some (b1, d1))) b d v := by
  refine ⟨k.1, fun eb => ?_⟩
  obtain ⟨ds, p, vs, rfl, rfl, h1, h2, h3, h4, h5, h6, h7⟩ := k.2 eb
  refine ⟨ds, p, vs, rfl, rfl, h1, h2, h3, h4, h5, h6, fun j d' e => ?_⟩
  by_cases hj : i = j
  · subst hj
    by_cases hl : i < env.length
    · rw [List.getElem?_set_self hl] at e
      have z : b1 = true := by
        cases e
        rfl
      obtain ⟨ds1, p1, vs1, rfl, rfl, _⟩ := k1.2 z
      rw [show owSet b1 (.ref p1) i ow i = p1 from if_pos ⟨z, rfl⟩]
      exact fun q => n z eb (by rw [q])
    · rw [List.getElem?_eq_none (by rw [List.length_set]; omega)] at e
      cases e
  · rw [List.getElem?_set_ne hj] at e
    rw [show owSet b1 v1 i ow j = ow j from if_neg fun z => hj z.2.symm]
    exact h7 j d' e
/-- a target's slots are put -/
theorem SRw.put (h : SRw g C A0 B H0 F ow env σ H) {env' : En} {σ' : L2.St} {is : List Nat} {A : Addr → Prop} (pr : PutR g C H A is env env' σ σ') (hA : ∀ a, A a → F a) : SRw g C A0 B H0 F ow env' σ' H := by
  refine ⟨h.ext, h.fr, fun i d e => ?_, fun i d e => ?_, fun i j d d' e e' n => ?_⟩
  · rcases pr.on i false d e with ⟨k1, k2⟩ | ⟨_, v, k2, k3⟩
    · obtain ⟨v, h1, h2⟩ := h.old i d k1
      exact ⟨v, k2.trans h1, h2⟩
    · exact ⟨v, k2, k3.mono hA⟩
  · rcases pr.on i true d e with ⟨k1, k2⟩ | ⟨z, _⟩
    · obtain ⟨ds, vs, e1, h1, h2⟩ := h.own i d k1
      exact ⟨ds, vs, e1, k2.trans h1, h2⟩
    · cases z
  · rcases pr.on i true d e with ⟨k1, _⟩ | ⟨z, _⟩
    · rcases pr.on j true d' e' with ⟨k2, _⟩ | ⟨z, _⟩
      · exact h.dis i j d d' k1 k2 n
      · cases z
    · cases z
/-- the owned list of a slot is changed -/
theorem SRw.write (h : SRw g C A0 B H0 F ow env σ H) {i : Nat} {xs ys : List D} {ws : List V} (e : env[i]? = some (some (true, .lst xs))) (fl : D.flats ys = true) (r : Rps g C H F ys ws) :
    SRw g C A0 B H0 F ow (env.set i (some (true, .lst ys))) σ (upd H (ow i) (.lst ws)) := by
  obtain ⟨ds0, vs0, e0, h1, h2, h3, h4, h5, h6, h7⟩ := h.own i _ e
  have mvT : ∀ a vs, SqT g.K H a vs → SqT g.K (upd H (ow i) (.lst ws)) a vs := fun a vs k => by
    rcases k with (k | ⟨o, k⟩) | k
    · exact .inl (.inl (by rw [upd_ne (fun z => by rw [z, h2] at k; cases k)]; exact k))
    · exact .inl (.inr ⟨o, by rw [upd_ne (fun z => by rw [z, h2] at k; cases k)]; exact k⟩)
    · exact .inr k
  have mv : ∀ {d : D} {v : V}, Rp g C H F d v → Rp g C (upd H (ow i) (.lst ws)) F d v := fun {d v} k => Rp.move mvT (fun a vs k1 k2 _ => ⟨by rw [upd_ne (fun z => by rw [z] at k2; exact h4 k2)]; exact k1, k2⟩) d v k
  have mvs : ∀ {d : List D} {v : List V}, Rps g C H F d v → Rps g C (upd H (ow i) (.lst ws)) F d v := fun {d v} k => Rps.move mvT (fun a vs k1 k2 _ => ⟨by rw [upd_ne (fun z => by rw [z] at k2; exact h4 k2)]; exact k1, k2⟩) d v k
  have hi : i < env.length := (List.getElem?_eq_some_iff.mp e).1
  refine ⟨⟨fun b o k n nb m => ?_, fun b vs k => ?_⟩, h.fr, fun j d e' => ?_, fun j d e' => ?_, fun j l d1 d2 e1 e2 n => ?_⟩
  · have k2 := h.ext.keep b o k n nb m
    rw [upd_ne (fun z => ?_)]
    · exact k2
    · rw [z] at nb k
      rcases h5 with q | q
      · exact nb q
      · rw [z, h2] at k2
        cases k2
        exact q _ k
  · by_cases hb : b = ow i
    · rw [hb, upd_same]
      exact ⟨_, rfl⟩
    · rw [upd_ne hb]
      exact h.ext.lst b vs k
  · by_cases hj : i = j
    · subst hj
      rw [List.getElem?_set_self hi] at e'
      cases e'
    · rw [List.getElem?_set_ne hj] at e'
      obtain ⟨v, k1, k2⟩ := h.old j d e'
      exact ⟨v, k1, mv k2⟩
  · by_cases hj : i = j
    · subst hj
      rw [List.getElem?_set_self hi] at e'
      cases e'
      exact ⟨ys, ws, rfl, h1, upd_same, h3, h4, h5, fl, mvs r⟩
    · rw [List.getElem?_set_ne hj] at e'
      obtain ⟨ds, vs, q1, q2, q3, q4, q5, q6, q7, q8⟩ := h.own j d e'
      exact ⟨ds, vs, q1, q2, by rw [upd_ne (fun z => h.dis i j _ d e e' hj z.symm)]; exact q3, q4, q5, q6, q7, mvs q8⟩
  · have back : ∀ {k : Nat} {d : D}, (env.set i (some (true, .lst ys)))[k]? = some (some (true, d)) → ∃ d', env[k]? = some (some (true, d')) := fun {k d} z => by
      by_cases hk : i = k
      · subst hk
        exact ⟨_, e⟩
      · rw [List.getElem?_set_ne hk] at z
        exact ⟨d, z⟩
    obtain ⟨d1', z1⟩ := back e1
    obtain ⟨d2', z2⟩ := back e2
    exact h.dis j l d1' d2' z1 z2 n
end
end Ev

/-! Statements keep their readings: the parts. -/
namespace Ev
open PySem PySem.Spec PyProof.Rows L2 LamX

def noComp : Expr → Bool
  | .ListComp .. => false
  | .SetComp .. => false
  | .DictComp .. => false
  | _ => true
theorem noSwap {v : Expr} {t : Option Expr} {l : Nat} {env : Env} (h : noComp v = true) : swapsWith v t l env = pure false := by
  cases v <;> first | rfl | cases h
theorem noSwapS {v t : Expr} {l : Nat} {env : Env} (h : noComp v = true) : swapsWithSole [t] v l env = pure false := by
  show swapsWith v (some t) l env = pure false
  exact noSwap h
section
variable (g : G) (C : Addr) (wd : Words) (nw : Str) (call : Nat → List D → Cup → Re D) (A0 B : Addr → Prop) (H0 : Hp) (W : WX)
def SOut (E : Ends) (r : SR) : Prop := match r with
  | .next env u => ∀ σ' H', SRel g C A0 B H0 env σ' H' → Wd g C H' u → E.nx σ' H'
  | .ret d u => ∀ v H', ExtB C B H0 H' → Wd g C H' u → Rp g C H' (fun a => A0 a ∨ B a ∨ NL H0 a) d v → E.rt v H'
  | .exc k u => ∀ σ' H', ExtB C B H0 H' → Wd g C H' u → W (.ref (g.ca k)) none σ' H'
  | .bad => False
def tS (s : Sx) : TS := fun E σ H => ∃ env u, SRel g C A0 B H0 env σ H ∧ Wd g C H u ∧ SOut g C A0 B H0 W E (evS wd nw call s env u)
def tSs (s : List Sx) : TS := fun E σ H => ∃ env u, SRel g C A0 B H0 env σ H ∧ Wd g C H u ∧ SOut g C A0 B H0 W E (evSs wd nw call s env u)
end
section
variable {p : PC} {f : Fx} {wd : Words} {nw : Str} {pr : List FD} {n : Nat} {X : Cx} {m : MC} {C : Addr} {W : WX} {call : Nat → List D → Cup → Re D} {A0 B F : Addr → Prop} {H0 H H' : Hp} {ow : Nat → Addr} {env : En} {σ : L2.St} {u : Cup} {E : Ends}
theorem ExtB.more {g : G} (x : ExtB C B H0 H) (e : Ext C H H') : ExtB C B H0 H' := x.trans (B' := fun _ => False) e.toB fun _ z => z.elim
theorem SRw.inA (h : SRw (gx X f) C A0 B H0 F ow env σ H) {is : List Nat} {a : Addr} (z : AOf env ow F H is a ∨ NL H a) : A0 a ∨ B a ∨ NL H0 a := by
  rcases z with (z | ⟨j, _, ⟨d, ed⟩, rfl⟩) | z
  · exact h.fr a z.1
  · obtain ⟨_, _, _, _, _, _, _, h5, _⟩ := h.own j d ed
    exact h5.elim (fun q => .inr (.inl q)) fun q => .inr (.inr q)
  · exact .inr (.inr (h.ext.free a z))
/-- a statement's expression -/
theorem tE_of {e : Ex} {k : D → Cup → SR} {Q : VK} (h : SRw (gx X f) C A0 B H0 F ow env σ H) (w : Wd (gx X f) C H u) (o : SOut (gx X f) C A0 B H0 W E (ofRe (evE wd nw call e env u) k))
    (hk : ∀ d u1 v H', Post (gx X f) C H (AOf env ow F H e.fv) e.fresh d u1 v H' → SOut (gx X f) C A0 B H0 W E (k d u1) → Q v H') : tE (gx X f) C wd nw call W e σ H Q := by
  refine ⟨env, u, AOf env ow F H e.fv, h.relE _, w, ?_⟩
  cases eE : evE wd nw call e env u with
  | ok d u1 =>
    rw [eE] at o
    exact fun v H' po => hk d u1 v H' po o
  | exc j u1 =>
    rw [eE] at o
    exact fun H' x w' => o σ H' (h.ext.more (g := gx X f) x) w'
  | bad =>
    rw [eE] at o
    exact o
theorem tT_of {e : Ex} {k : D → Cup → SR} {Q : Bool → Hp → Prop} (h : SRw (gx X f) C A0 B H0 F ow env σ H) (w : Wd (gx X f) C H u) (o : SOut (gx X f) C A0 B H0 W E (ofRe (evE wd nw call e env u) k))
    (hk : ∀ d u1, SOut (gx X f) C A0 B H0 W E (k d u1) → ∃ b, d = .bl b ∧ ∀ H', Ext C H H' → Wd (gx X f) C H' u1 → Q b H') : tT (gx X f) C wd nw call W e σ H Q := by
  refine ⟨env, u, AOf env ow F H e.fv, h.relE _, w, ?_⟩
  cases eE : evE wd nw call e env u with
  | ok d u1 =>
    rw [eE] at o
    exact hk d u1 o
  | exc j u1 =>
    rw [eE] at o
    exact fun H' x w' => o σ H' (h.ext.more (g := gx X f) x) w'
  | bad =>
    rw [eE] at o
    exact o
variable (hB : ∀ a, B a → ∃ vs, H0 a = some (.lst vs))
include hB
/-- name = e -/
theorem ps_set' {i : Nat} {e : Ex} {st : Stmt} (hi : i < X.N.length) (h : PS X st (tAsg (tE (gx X f) C wd nw call W e) (gName i))) : PS X st (tS (gx X f) C wd nw call A0 B H0 W (.set i e)) := by
  refine psImpL h fun D σ H len q => ?_
  obtain ⟨env, u, ⟨F, ow, hr⟩, w, o⟩ := q
  rw [evS] at o
  refine tE_of hr w o fun d u1 v H' po o1 => ?_
  obtain ⟨F', h', k⟩ := hr.after hB po
  exact o1 _ _ (h'.set (by omega) k) po.wd
/-- targets = e -/
theorem ps_asg' {ts : List Tg} {e : Ex} {st : Stmt} (h : PS X st (tAsg (tE (gx X f) C wd nw call W e) (tG (gx X f) C (.t ts)))) : PS X st (tS (gx X f) C wd nw call A0 B H0 W (.asg ts e)) := by
  refine psImpL h fun D σ H len q => ?_
  obtain ⟨env, u, ⟨F, ow, hr⟩, w, o⟩ := q
  rw [evS] at o
  refine tE_of hr w o fun d u1 v H' po o1 => ?_
  obtain ⟨F', h', k⟩ := hr.after hB po
  cases eP : (Tg.t ts).put d (after e d env) with
  | none =>
    simp only [eP] at o1
    exact o1.elim
  | some env1 =>
    simp only [eP] at o1
    have rd : Rp (gx X f) C H' F' d v := by
      refine k.1 ?_
      cases d <;> first | (simp only [Ev.D.ownable, Bool.and_false]; done) | (simp [Tg.put] at eP; done)
    exact ⟨F', d, _, env1, rd, eP, fun σ' pr => o1 _ _ ⟨F', ow, h'.put pr fun _ z => z⟩ po.wd⟩
theorem ps_exp' {e : Ex} {x : Expr} {pos : Pos} (h : PE X x (tE (gx X f) C wd nw call W e)) (hs : noComp x = true) : PS X (.Expr x pos) (tS (gx X f) C wd nw call A0 B H0 W (.exp e)) := by
  refine psImpL (ps_expr h (noSwap hs)) fun D σ H len q => ?_
  obtain ⟨env, u, ⟨F, ow, hr⟩, w, o⟩ := q
  rw [evS] at o
  exact tE_of hr w o fun d u1 v H' po o1 => o1 _ _ ⟨_, ow, hr.ext' po.ext hB⟩ po.wd
theorem ps_ret' {e : Ex} {x : Expr} {pos : Pos} (h : PE X x (tE (gx X f) C wd nw call W e)) : PS X (.Return (some x) pos) (tS (gx X f) C wd nw call A0 B H0 W (.ret e)) := by
  refine psImpL (ps_ret h) fun D σ H len q => ?_
  obtain ⟨env, u, ⟨F, ow, hr⟩, w, o⟩ := q
  rw [evS] at o
  exact tE_of hr w o fun d u1 v H' po o1 => o1 _ _ (hr.ext.more (g := gx X f) po.ext) po.wd (po.rp.mono fun a z => hr.inA z)
theorem ps_ite' {c : Ex} {a b : List Sx} {x : Expr} {sa sb : List Stmt} {pos : Pos} (hc : PT X x (tT (gx X f) C wd nw call W c)) (ha : PSs X sa (tSs (gx X f) C wd nw call A0 B H0 W a)) (hb : PSs X sb (tSs (gx X f) C wd nw call A0 B H0 W b)) :
    PS X (.If x sa sb pos) (tS (gx X f) C wd nw call A0 B H0 W (.ite c a b)) := by
  refine psImpL (ps_if hc ha hb) fun D σ H len q => ?_
  obtain ⟨env, u, ⟨F, ow, hr⟩, w, o⟩ := q
  rw [evS] at o
  refine tT_of hr w o fun d u1 o1 => ?_
  cases d with
  | bl k =>
    refine ⟨k, rfl, fun H' x' w' => ?_⟩
    cases k with
    | true => exact iteT ⟨env, u1, ⟨_, ow, hr.ext' x' hB⟩, w', o1⟩
    | false => exact iteF ⟨env, u1, ⟨_, ow, hr.ext' x' hB⟩, w', o1⟩
  | _ => exact o1.elim
theorem ps_pass' {pos : Pos} : PS X (.Pass pos) (tS (gx X f) C wd nw call A0 B H0 W .pass) := by
  refine psImpL ps_pass fun D σ H len q => ?_
  obtain ⟨env, u, hr, w, o⟩ := q
  rw [evS] at o
  exact o _ _ hr w
theorem ps_raise' {k : Nat} {st : Stmt} (h : PS X st (fun _ σ H => W (.ref (f.ca k)) none σ H)) : PS X st (tS (gx X f) C wd nw call A0 B H0 W (.raise k)) := by
  refine psImpL h fun D σ H len q => ?_
  obtain ⟨env, u, ⟨F, ow, hr⟩, w, o⟩ := q
  rw [evS] at o
  exact o _ _ hr.ext w
/-! ### blocks -/
theorem pss_nil' : PSs X [] (tSs (gx X f) C wd nw call A0 B H0 W []) := by
  refine ⟨fun pins s σ H D I q => pss_nil.run pins s σ H D I ?_⟩
  obtain ⟨env, u, hr, w, o⟩ := q
  rw [evSs] at o
  exact o _ _ hr w
theorem pss_cons' {s : Sx} {ss : List Sx} {st : Stmt} {sts : List Stmt} (h : PS X st (tS (gx X f) C wd nw call A0 B H0 W s)) (hs : PSs X sts (tSs (gx X f) C wd nw call A0 B H0 W ss)) : PSs X (st :: sts) (tSs (gx X f) C wd nw call A0 B H0 W (s :: ss)) := by
  refine ⟨fun pins s' σ H D I q => (pss_cons h hs).run pins s' σ H D I ?_⟩
  obtain ⟨env, u, hr, w, o⟩ := q
  rw [evSs] at o
  refine ⟨env, u, hr, w, ?_⟩
  cases e : evS wd nw call s env u with
  | next env1 u1 =>
    rw [e] at o
    exact fun σ' H' hr' w' => ⟨env1, u1, hr', w', o⟩
  | ret d u1 =>
    rw [e] at o
    exact o
  | exc k u1 =>
    rw [e] at o
    exact o
  | bad =>
    rw [e] at o
    exact o
/-! ### x.append(e) -/
theorem ps_app' {i : Nat} {e : Ex} {nm : Str} {x : Expr} {apos npos cpos pos : Pos} (hN : X.N[i]? = some nm) (hv : Vis X.env.scope nm) (ho : okN nm = true) (h : PE X x (tE (gx X f) C wd nw call W e)) (hs : starless x = true) (hline : (apos.endLine == cpos.line) = true) :
    PS X (.Expr (.Call (.Attribute (.Name nm npos) "append" apos) [x] [] cpos) pos) (tS (gx X f) C wd nw call A0 B H0 W (.app i e)) := by
  have hb : attributeBase (.Name nm npos) "append" X.env (eval (.Name nm npos) X.env) = eval (.Name nm npos) X.env := rfl
  have hv' : PE X (.Name nm npos) (tVar i) := pe_var hN hv (okN_of ho).1 (okN_of ho).2.1
  refine psImpL (ps_expr (pe_bm PySem.F.plainAttrs_list PySem.F.slot_list_append PySem.F.type_list_append mt_append hv' (pa_cons h pa_nil (star_of hs)) hb (by rw [star_of hs]; rfl) hline (star_of hs) rfl) rfl) fun D σ H len q => ?_
  obtain ⟨env, u, ⟨F, ow, hr⟩, w, o⟩ := q
  rw [evS] at o
  split at o
  · rename_i xs ei
    obtain ⟨ds, vs, e1, h1, h2, h3, h4, h5, h6, h7⟩ := hr.own i _ ei
    cases e1
    refine ⟨.ref (ow i), h1, .inl ⟨rfl, vs, SqL.of h2⟩, ?_⟩
    refine tE_of hr w o fun d u1 v H' po o1 => ?_
    split at o1
    · rename_i hf
      rw [Bool.and_eq_true, decide_eq_true_eq] at hf
      have hr2 := hr.ext' po.ext hB
      have k2 : H' (ow i) = some (.lst vs) := po.ext.lst h2 h3
      have lv := h7.length
      refine ⟨ow i, vs, v, rfl, rfl, k2, ?_, ?_⟩
      · have := big_le
        omega
      · have rr : Rps (gx X f) C H' (fun a => F a ∧ ¬ NL H a) (xs ++ [d]) (vs ++ [v]) := Rps.app (Rps.ofFlat _ _ h6 (po.ext.rps h7)) (Rps.one (Rp.ofFlat _ _ hf.1 po.rp))
        have fl : Ev.D.flats (xs ++ [d]) = true := by
          have key : ∀ ys : List Ev.D, Ev.D.flats ys = true → Ev.D.flats (ys ++ [d]) = true := by
            intro ys
            induction ys with
            | nil => intro _; simp [Ev.D.flats, hf.1]
            | cons y ys ih =>
              intro hy
              simp only [Ev.D.flats, Bool.and_eq_true] at hy
              simp only [List.cons_append, Ev.D.flats, hy.1, ih hy.2, Bool.and_self]
          exact key xs h6
        refine o1 _ _ ⟨_, ow, hr2.write ei fl rr⟩ ⟨?_, fun q hq => ?_⟩
        · rw [upd_ne h3.symm]
          exact po.wd.cup
        · obtain ⟨ps, a1, a2, a3⟩ := po.wd.tabs q hq
          refine ⟨ps, by rw [upd_ne (fun z => by rw [z, k2] at a1; cases a1)]; exact a1, a2, fun ps' cv hcv => ?_⟩
          obtain ⟨c0, b1, b2⟩ := a3 ps' cv hcv
          exact ⟨c0, b1, by rw [upd_ne (fun z => by rw [z, k2] at b2; unfold CodeO at b2; cases b2)]; exact b2⟩
    · exact o1.elim
  · exact o.elim
/-! ### cup[k] = e -/
omit hB in
theorem Wd.cupSet {g : G} {u1 : Cup} (w : Wd g C H u) : Wd g C (upd H C (.lst [.int u1.1, .int u1.2])) u1 := by
  refine ⟨upd_same, fun q hq => ?_⟩
  obtain ⟨ps, a1, a2, a3⟩ := w.tabs q hq
  have k2 := w.cup
  refine ⟨ps, by rw [upd_ne (fun z => by rw [z, k2] at a1; cases a1)]; exact a1, a2, fun ps' cv hcv => ?_⟩
  obtain ⟨c0, b1, b2⟩ := a3 ps' cv hcv
  exact ⟨c0, b1, by rw [upd_ne (fun z => by rw [z, k2] at b2; unfold CodeO at b2; cases b2)]; exact b2⟩
omit hB in
theorem SRw.cupSet {g : G} {u1 : Cup} (h : SRw g C A0 B H0 F ow env σ H) (w : Wd g C H u) : SRw g C A0 B H0 F ow env σ (upd H C (.lst [.int u1.1, .int u1.2])) := by
  have k2 := w.cup
  have mvT : ∀ a vs, SqT g.K H a vs → SqT g.K (upd H C (.lst [.int u1.1, .int u1.2])) a vs := fun a vs k => by
    rcases k with (k | ⟨o, k⟩) | k
    · exact .inl (.inl (by rw [upd_ne (fun z => by rw [z, k2] at k; cases k)]; exact k))
    · exact .inl (.inr ⟨o, by rw [upd_ne (fun z => by rw [z, k2] at k; cases k)]; exact k⟩)
    · exact .inr k
  have mv : ∀ {d : D} {v : V}, Rp g C H F d v → Rp g C (upd H C (.lst [.int u1.1, .int u1.2])) F d v := fun {d v} k => Rp.move mvT (fun a vs k1 k3 n => ⟨by rw [upd_ne n]; exact k1, k3⟩) d v k
  have mvs : ∀ {d : List D} {v : List V}, Rps g C H F d v → Rps g C (upd H C (.lst [.int u1.1, .int u1.2])) F d v := fun {d v} k => Rps.move mvT (fun a vs k1 k3 n => ⟨by rw [upd_ne n]; exact k1, k3⟩) d v k
  refine ⟨⟨fun b o k n nb m => by rw [upd_ne n]; exact h.ext.keep b o k n nb m, fun b vs k => ?_⟩, h.fr, fun j d e' => ?_, fun j d e' => ?_, h.dis⟩
  · by_cases hb : b = C
    · rw [hb, upd_same]
      exact ⟨_, rfl⟩
    · rw [upd_ne hb]
      exact h.ext.lst b vs k
  · obtain ⟨v, q1, q2⟩ := h.old j d e'
    exact ⟨v, q1, mv q2⟩
  · obtain ⟨ds, vs, q1, q2, q3, q4, q5, q6, q7, q8⟩ := h.own j d e'
    exact ⟨ds, vs, q1, q2, by rw [upd_ne q4]; exact q3, q4, q5, q6, q7, mvs q8⟩
theorem ps_sub' {i : Nat} {k e : Ex} {nm : Str} {x y : Expr} {npos spos pos : Pos} (hN : X.N[i]? = some nm) (hv : Vis X.env.scope nm) (ho : okN nm = true) (h : PE X x (tE (gx X f) C wd nw call W e)) (hk : PE X y (tE (gx X f) C wd nw call W k)) (hc : noComp x = true) (hs : starless y = true) :
    PS X (.Assign [.Subscript (.Name nm npos) y spos] x pos) (tS (gx X f) C wd nw call A0 B H0 W (.sub i k e)) := by
  have hv' : PE X (.Name nm npos) (tVar i) := pe_var hN hv (okN_of ho).1 (okN_of ho).2.1
  have hg : PG X (.Subscript (.Name nm npos) y spos) (gSub (tVar i) (tE (gx X f) C wd nw call W k) rSetL) := pg_sub hv' hk set_list (fun v => by cases y <;> first | rfl | cases hs)
  refine psImpL (ps_asg h hg (noSwapS hc) rfl rfl) fun D σ H len q => ?_
  obtain ⟨env, u, ⟨F, ow, hr⟩, w, o⟩ := q
  rw [evS] at o
  split at o
  · rename_i b ei
    have hcup : σ[i]? = some (some (V.ref C)) := by
      cases b with
      | false =>
        obtain ⟨v, h1, h2⟩ := hr.old i _ ei
        cases h2
        exact h1
      | true =>
        obtain ⟨ds, vs, e1, _⟩ := hr.own i _ ei
        cases e1
    refine tE_of hr w o fun d u1 v H' po o1 => ?_
    refine ⟨_, hcup, ?_⟩
    have hr2 := hr.ext' po.ext hB
    refine tE_of hr2 po.wd o1 fun y u2 v2 H2 ps o2 => ?_
    have hr3 := hr2.ext' ps.ext hB
    have rd := ps.ext.rp po.rp
    split at o2
    · rename_i z
      have e1 : v2 = .int 0 := ps.rp
      have e2 : v = .int z := rd
      subst e1
      subst e2
      exact ⟨C, _, 0, 0, rfl, rfl, ps.wd.cup, rfl, o2 _ _ ⟨_, ow, hr3.cupSet (u1 := (z, u2.2)) ps.wd⟩ (Wd.cupSet (u1 := (z, u2.2)) ps.wd)⟩
    · rename_i z
      have e1 : v2 = .int 1 := ps.rp
      have e2 : v = .int z := rd
      subst e1
      subst e2
      exact ⟨C, _, 1, 1, rfl, rfl, ps.wd.cup, rfl, o2 _ _ ⟨_, ow, hr3.cupSet (u1 := (u2.1, z)) ps.wd⟩ (Wd.cupSet (u1 := (u2.1, z)) ps.wd)⟩
    · exact o2.elim
  · exact o.elim
end
end Ev

/-! Loops; a, b = x, y. -/
namespace Ev
open PySem PySem.Spec PyProof.Rows L2 LamX
section
variable {p : PC} {f : Fx} {wd : Words} {nw : Str} {pr : List FD} {n : Nat} {X : Cx} {m : MC} {C : Addr} {W : WX} {call : Nat → List D → Cup → Re D} {A0 B F : Addr → Prop} {H0 H H' : Hp} {ow : Nat → Addr} {env : En} {σ : L2.St} {u : Cup} {E : Ends}
/-- lists that stand at the start may be held to stay -/
theorem SRw.more {g : G} (h : SRw g C A0 B H0 F ow env σ H) : SRw g C A0 B H0 (fun a => F a ∨ (A0 a ∧ ¬ B a ∧ ¬ NL H0 a)) ow env σ H := by
  refine ⟨h.ext, fun a ha => ha.elim (h.fr a) fun z => .inl z.1, fun i d e => ?_, fun i d e => ?_, h.dis⟩
  · obtain ⟨v, h1, h2⟩ := h.old i d e
    exact ⟨v, h1, h2.mono fun a => .inl⟩
  · obtain ⟨ds, vs, e1, h1, h2, h3, h4, h5, h6, h7⟩ := h.own i d e
    refine ⟨ds, vs, e1, h1, h2, h3, fun z => ?_, h5, h6, h7.mono fun a => .inl⟩
    rcases z with z | z
    · exact h4 z
    · rcases h5 with q | q
      · exact z.2.1 q
      · exact z.2.2 q
/-- what the loop's body may change: the lists that slots hold alone at its start -/
def BOf (env : En) (ow : Nat → Addr) (a : Addr) : Prop := ∃ i d, env[i]? = some (some (true, d)) ∧ a = ow i
theorem SRw.bof {g : G} (h : SRw g C A0 B H0 F ow env σ H) {a : Addr} (z : BOf env ow a) : (∃ vs, H a = some (.lst vs)) ∧ ¬ F a ∧ (B a ∨ NL H0 a) := by
  obtain ⟨i, d, e, rfl⟩ := z
  obtain ⟨ds, vs, _, _, h2, _, h4, h5, _⟩ := h.own i d e
  exact ⟨⟨vs, h2⟩, h4, h5⟩
/-- the relation begins anew -/
theorem SRw.anew {g : G} (h : SRw g C A0 B H0 F ow env σ H) : SRw g C F (BOf env ow) H F ow env σ H := by
  refine ⟨⟨fun _ _ k _ _ _ => k, fun _ vs k => ⟨vs, k⟩⟩, fun a ha => .inl ha, h.old, fun i d e => ?_, h.dis⟩
  obtain ⟨ds, vs, e1, h1, h2, h3, h4, h5, h6, h7⟩ := h.own i d e
  exact ⟨ds, vs, e1, h1, h2, h3, h4, .inl ⟨i, d, e, rfl⟩, h6, h7⟩
/-- .. and goes back -/
theorem SRw.incl {g : G} (h : SRw g C A0 B H0 F ow env σ H) {a : Addr} (z : F a ∨ BOf env ow a ∨ NL H a) : A0 a ∨ B a ∨ NL H0 a := by
  rcases z with z | z | z
  · exact h.fr a z
  · exact (h.bof z).2.2.elim (fun q => .inr (.inl q)) fun q => .inr (.inr q)
  · exact .inr (.inr (h.ext.free a z))
theorem SRw.extB {g : G} (h : SRw g C A0 B H0 F ow env σ H) (x : ExtB C (BOf env ow) H H') : ExtB C B H0 H' := h.ext.trans x fun c z => ⟨(h.bof z).1, (h.bof z).2.2⟩
theorem SRel.back {g : G} (h : SRw g C A0 B H0 F ow env σ H) {env2 : En} {σ2 : L2.St} {H2 : Hp} (k : SRel g C F (BOf env ow) H env2 σ2 H2) : SRel g C A0 B H0 env2 σ2 H2 := by
  obtain ⟨F2, ow2, r⟩ := k
  refine ⟨F2, ow2, h.extB r.ext, fun a ha => h.incl (r.fr a ha), r.old, fun i d e => ?_, r.dis⟩
  obtain ⟨ds, vs, e1, h1, h2, h3, h4, h5, h6, h7⟩ := r.own i d e
  refine ⟨ds, vs, e1, h1, h2, h3, h4, ?_, h6, h7⟩
  rcases h5 with q | q
  · exact (h.bof q).2.2
  · exact .inr (h.ext.free _ q)
/-- one turn of a for -/
def turnS (wd : Words) (nw : Str) (call : Nat → List D → Cup → Re D) (tg : Tg) (body : List Sx) (x : D) (env1 : En) (u2 : Cup) : SR := match tg.put x env1 with
  | some env2 => evSs wd nw call body env2 u2
  | none => .bad
theorem evS_for {tg : Tg} {src : Ex} {body : List Sx} : evS wd nw call (.for_ tg src body) env u = ofRe (evE wd nw call src env u) fun d u1 => match d.items with
    | some xs => forLoop (turnS wd nw call tg body) xs (freeze src.fv env) u1
    | none => .bad := by
  rw [evS]
  rfl
theorem ps_for' (hp : PassesOwn (model X.prog X.w) X.A X.env X.xe) (hc : X.calm = true) (hB : ∀ a, B a → ∃ vs, H0 a = some (.lst vs)) {tg : Tg} {src : Ex} {body : List Sx} {tg' it' : Expr} {sts : List Stmt} {pos : Pos} (hi : PI X tg' it' (tI (gx X f) C wd nw call W src)) (hg : PG X tg' (tG (gx X f) C tg))
    (hb : ∀ (A1 B1 : Addr → Prop) (H1 : Hp), (∀ a, B1 a → ∃ vs, H1 a = some (.lst vs)) → PSs X sts (tSs (gx X f) C wd nw call A1 B1 H1 W body)) (hs : starless it' = true) : PS X (.For tg' it' sts [] pos) (tS (gx X f) C wd nw call A0 B H0 W (.for_ tg src body)) := by
  refine ⟨fun pins s σ H D I q => ?_⟩
  obtain ⟨env, u, ⟨F, ow, hr⟩, w, o⟩ := q
  -- the body's reading: for some start of the relation
  let tb : TS := fun D σ H => ∃ (A1 B1 : Addr → Prop) (H1 : Hp), (∀ a, B1 a → ∃ vs, H1 a = some (.lst vs)) ∧ tSs (gx X f) C wd nw call A1 B1 H1 W body D σ H
  have hbody : PSs X sts tb := ⟨fun pins s σ H D I ⟨A1, B1, H1, h1, q⟩ => (hb A1 B1 H1 h1).run pins s σ H D I q⟩
  refine (ps_for hp hc hi hg hbody (fun x => by cases it' <;> first | rfl | cases hs)).run pins s σ H D I ?_
  rw [evS_for] at o
  refine ⟨env, u, AOf env ow F H src.fv, hr.relE _, w, ?_⟩
  cases eE : evE wd nw call src env u with
  | bad =>
    rw [eE] at o
    exact o
  | exc j u1 =>
    rw [eE] at o
    exact fun H' x w' => o σ H' (hr.ext.more (g := gx X f) x) w'
  | ok d u1 =>
  rw [eE] at o
  cases ed : d.items with
  | none =>
    simp only [ofRe, ed] at o
    exact o.elim
  | some xs =>
  simp only [ofRe, ed] at o
  refine ⟨xs, ed, fun J H1 e1 w1 gv => ?_⟩
  obtain ⟨Gd, Y, wk, hG, hY⟩ := gv
  have h1 := hr.fast e1 src.fv
  have hk := h1.anew
  have okB : OkB H1 (fun a => AOf env ow F H src.fv a ∨ NL H a) (BOf (freeze src.fv env) ow) := fun a z => ⟨(h1.bof z).1, (h1.bof z).2.1⟩
  have hB1 : ∀ a, BOf (freeze src.fv env) ow a → ∃ vs, H1 a = some (.lst vs) := fun a z => (h1.bof z).1
  refine for_it wk (fun i σ2 H2 => ∃ env2 u2, SRel (gx X f) C (fun a => AOf env ow F H src.fv a ∨ NL H a) (BOf (freeze src.fv env) ow) H1 env2 σ2 H2 ∧ Wd (gx X f) C H2 u2 ∧ SOut (gx X f) C A0 B H0 W D (forLoop (turnS wd nw call tg body) (xs.drop i) env2 u2))
    ⟨_, u1, ⟨_, _, hk⟩, w1, by rw [List.drop_zero]; exact o⟩ (fun i σ2 H2 _ ⟨_, _, ⟨_, _, r⟩, _⟩ => hG _ H2 okB r.ext) ?_ ?_
  · rintro i x σ2 H2 H3 hi ⟨env2, u2, ⟨F2, ow2, r⟩, w2, o2⟩ y
    obtain ⟨d1, hd1, e3, w3, r3⟩ := hY _ i H2 x H3 u2 okB hi r.ext w2 y
    have ed1 : d1 = xs[i] := by
      rw [List.getElem?_eq_getElem hi] at hd1
      exact (Option.some.inj hd1).symm
    rw [List.drop_eq_getElem_cons hi, ← ed1] at o2
    simp only [forLoop] at o2
    cases eP : tg.put d1 env2 with
    | none =>
      simp only [turnS, eP] at o2
      exact o2.elim
    | some env3 =>
    simp only [turnS, eP] at o2
    have r4 := (r.ext' e3 hB1).more
    refine ⟨_, d1, env2, env3, r3, eP, fun σ3 pr => ?_⟩
    have r5 := r4.put pr (fun a z => .inr ⟨z.1, fun q => (okB a q).2 z.1, z.2⟩)
    refine ⟨_, _, H1, hB1, env3, u2, ⟨_, _, r5⟩, w3, ?_⟩
    cases eS : evSs wd nw call body env3 u2 with
    | next env4 u4 =>
      rw [eS] at o2
      exact fun σ' H' k' w' => ⟨env4, u4, k', w', o2⟩
    | ret d2 u4 =>
      rw [eS] at o2
      exact fun v H' x' w' rv => o2 v H' (h1.extB x') w' (rv.mono fun a z => h1.incl z)
    | exc k2 u4 =>
      rw [eS] at o2
      exact fun σ' H' x' w' => o2 σ' H' (h1.extB x') w'
    | bad =>
      rw [eS] at o2
      exact o2
  · rintro σ2 H2 ⟨env2, u2, k, w2, o2⟩
    rw [List.drop_length] at o2
    simp only [forLoop] at o2
    exact o2 _ _ (SRel.back h1 k) w2

/-! ### a, b = x, y -/
theorem Keep.up {g : G} {b : Bool} {d : D} {v : V} (hr : SRw g C A0 B H0 F ow env σ H) (x : Ext C H H') (h : Keep g C B H0 H F ow env b d v) : Keep g C B H0 H' (fun a => F a ∧ ¬ NL H a) ow env b d v := by
  refine ⟨fun eb => x.rp (h.1 eb).tight, fun eb => ?_⟩
  obtain ⟨ds, p, vs, e1, e2, h1, h2, h3, h4, h5, h6, h7⟩ := h.2 eb
  exact ⟨ds, p, vs, e1, e2, x.lst h1 h2, h2, fun z => h3 z.1, h4, h5, Rps.ofFlat _ _ h5 (x.rps h6), h7⟩
/-- the slot behind another one that was set: a new list is no other slot's -/
theorem ps_par2' (hB : ∀ a, B a → ∃ vs, H0 a = some (.lst vs)) {i j : Nat} {e1 e2 : Ex} {x1 x2 : Expr} {st : Stmt} (hi : i < X.N.length) (hj : j < X.N.length) (h1 : PE X x1 (tE (gx X f) C wd nw call W e1)) (h2 : PE X x2 (tE (gx X f) C wd nw call W e2))
    (h : PS X st (tPar i j (tCons (tE (gx X f) C wd nw call W e1) (tCons (tE (gx X f) C wd nw call W e2) tNil)))) : PS X st (tS (gx X f) C wd nw call A0 B H0 W (.par [i, j] [e1, e2])) := by
  refine psImpL h fun D σ H len q => ?_
  obtain ⟨env, u, ⟨F, ow, hr⟩, w, o⟩ := q
  rw [evS] at o
  -- the evaluator's two steps
  have o' : SOut (gx X f) C A0 B H0 W D (ofRe (evE wd nw call e1 env u) fun d1 u1 => ofRe (evE wd nw call e2 env u1) fun d2 u2 => if (((e1.fresh && d1.ownable) || d1.flat) && ((e2.fresh && d2.ownable) || d2.flat)) = true then .next ((env.set i (some (e1.fresh && d1.ownable, d1))).set j (some (e2.fresh && d2.ownable, d2))) u2 else .bad) := by
    cases q1 : evE wd nw call e1 env u with
    | bad => simp only [evL, q1, Re.bind] at o; exact o
    | exc k u1 => simp only [evL, q1, Re.bind] at o; exact o
    | ok d1 u1 =>
      simp only [ofRe]
      cases q2 : evE wd nw call e2 env u1 with
      | bad => simp only [evL, q1, q2, Re.bind] at o; exact o
      | exc k u2 => simp only [evL, q1, q2, Re.bind] at o; exact o
      | ok d2 u2 =>
        simp only [evL, q1, q2, Re.bind, List.zip_cons_cons, List.zip_nil_right, List.all_cons, List.all_nil, Bool.and_true, setPar] at o
        exact o
  refine tE_of hr w o' fun d1 u1 v1 H1 po o1 => ?_
  have hr2 := hr.ext' po.ext hB
  refine ⟨env, u1, AOf env ow (fun a => F a ∧ ¬NL H a) H1 e2.fv, hr2.relE _, po.wd, ?_⟩
  cases q2 : evE wd nw call e2 env u1 with
  | bad =>
    rw [q2] at o1
    exact o1
  | exc k u2 =>
    rw [q2] at o1
    exact fun H' x' w' => o1 σ H' (hr2.ext.more (g := gx X f) x') w'
  | ok d2 u2 =>
  rw [q2] at o1
  simp only [ofRe] at o1
  intro v2 H2 ps
  split at o1
  · rename_i hok
    rw [Bool.and_eq_true, Bool.or_comm, Bool.or_comm (e2.fresh && d2.ownable)] at hok
    obtain ⟨r1, k1⟩ := hr.afterOk hB po hok.1
    obtain ⟨r2, k2⟩ := r1.afterOk hB ps hok.2
    have k1' := k1.up r1 ps.ext
    refine ⟨v1, v2, rfl, o1 _ _ ?_ ps.wd⟩
    have hi' : i < σ.length := by omega
    refine (r2.setW hi' k1').set (by rw [List.length_set]; omega) (k1'.next k2 fun z1 z2 ev => ?_)
    obtain ⟨ds1, p1, vs1, rfl, rfl, q, _⟩ := k1.2 z1
    rw [Bool.and_eq_true] at z2
    obtain ⟨ds2, rfl, fl⟩ := ownable_of z2.2
    exact ps.fr z2.1 ds2 rfl p1 ev.symm _ q
  · exact o1.elim
end
end Ev

/-! The look at statements; every statement keeps its reading. -/
namespace Ev
open PySem PySem.Spec PyProof.Rows L2 LamX

def swapNone (sc : Scope) (ts : List Expr) : Expr → Bool
  | .Tuple vs _ _ => !(decide (ts.length = 2) || decide (ts.length = 3)) || (ts.any fun t => match t with | .Name x _ => !locl sc x | _ => true) || vs.all (foldedForSure 8)
  | _ => true
def mPar (p : PC) (m : MC) (i j : Nat) (a b : Ex) : Stmt → Bool
  | .Assign [.Tuple [.Name x px, .Name y py] _ _] (.Tuple [a', b'] _ _) _ => decide (m.N[i]? = some x) && decide (m.N[j]? = some y) && !decide (i = j) && locl m.sc x && locl m.sc y && decide (py.line = px.line) && !decide (x = y) &&
      ((a.val && mE p m a a') && (b.val && mE p m b b')) && !([a', b'].all (foldedForSure 8)) && !([a', b'].all (constantsAlone 8)) && !m.hot
  | _ => false
def mSub (p : PC) (m : MC) (i : Nat) (k e : Ex) : Stmt → Bool
  | .Assign [.Subscript (.Name nm _) y _] x _ => decide (m.N[i]? = some nm) && vis m.sc nm && okN nm && (e.val && mE p m e x) && (k.val && mE p m k y) && noComp x
  | _ => false
def mApp (p : PC) (m : MC) (i : Nat) (e : Ex) : Stmt → Bool
  | .Expr (.Call (.Attribute (.Name nm _) attr apos) [x] [] cpos) _ => decide (m.N[i]? = some nm) && vis m.sc nm && okN nm && decide (attr = ("append" : Str)) && (e.val && mE p m e x) && (apos.endLine == cpos.line)
  | _ => false
def mRaise (p : PC) (m : MC) (k : Nat) : Stmt → Bool
  | .Raise (some (.Call (.Name x _) [.Constant (.str _) _ _] [] _)) none _ => decide (p.cn[k]? = some x) && glb m.sc x && okN x && !m.hot
  | _ => false
mutual
def mS (p : PC) (m : MC) : Sx → Stmt → Bool
  | .set i e, .Assign [.Name y _] x _ => decide (m.N[i]? = some y) && loccell m.sc y && (e.val && mE p m e x)
  | .asg ts e, .Assign [.Tuple es _ _] x _ => mTcs m ts es && (e.val && mE p m e x) && noComp x && swapNone m.sc es x
  | .par [i, j] [a, b], st => mPar p m i j a b st
  | .sub i k e, st => mSub p m i k e st
  | .app i e, st => mApp p m i e st
  | .exp e, .Expr x _ => (e.val && mE p m e x) && noComp x
  | .ret e, .Return (some x) _ => e.val && mE p m e x
  | .ite c a b, .If x sa sb _ => (c.val && mE p m c x) && mSs p m a sa && mSs p m b sb
  | .for_ tg src body, .For tg' it' sts [] _ => mTc m tg tg' && mE p m src it' && (!src.isZip || isTup tg') && mSs p m body sts && !m.hot
  | .raise k, st => mRaise p m k st
  | .pass, .Pass _ => true
  | _, _ => false
def mSs (p : PC) (m : MC) : List Sx → List Stmt → Bool
  | [], [] => true
  | s :: ss, t :: ts => mS p m s t && mSs p m ss ts
  | _, _ => false
end
section
variable {p : PC} {f : Fx} {wd : Words} {nw : Str} {pr : List FD} {n : Nat} {X : Cx} {m : MC}
/-- what a context must be for statements -/
structure SOk (p : PC) (f : Fx) (wd : Words) (nw : Str) (pr : List FD) (n : Nat) (X : Cx) (m : MC) : Prop where
  x : XOk p f wd nw pr n X m
  kind : m.sc.kind = .function
  loc : ∀ y, loccell m.sc y = true → Loc X.env.scope y ∧ (X.fn y = true ∨ X.env.scope.names.lookup y = some .local)
  ra : m.hot = false → ∀ k y, p.cn[k]? = some y → ∃ (B newId initId : String) (bmB : List Value), ExcBaseFacts B newId initId bmB ∧ PySem.W.excIn X.K (f.ca k) bmB newId = true ∧ X.mg y = some (.ref (f.ca k)) ∧ PySem.W.keepIn X.K (.ref (f.ca k)) = true ∧ Raises X (.ref (f.ca k))
  po : m.hot = false → PassesOwn (model X.prog X.w) X.A X.env X.xe
theorem XOk.heat (h : XOk p f wd nw pr n X m) : X.calm = true ∨ L2H.HotC X := by
  cases hh : m.hot with
  | false => exact .inl (h.calm hh)
  | true => exact .inr (h.hot hh)
theorem filt_lt {α β : Type} {g : α → Option β} : ∀ {ts : List α}, (∃ t ∈ ts, g t = none) → (ts.filterMap g).length < ts.length
  | [], h => by obtain ⟨t, ht, _⟩ := h; cases ht
  | t :: ts, h => by
    have le := List.length_filterMap_le g ts
    cases e : g t with
    | none =>
      rw [List.filterMap_cons_none e, List.length_cons]
      omega
    | some b =>
      rw [List.filterMap_cons_some e, List.length_cons, List.length_cons]
      obtain ⟨t', ht, ht'⟩ := h
      rcases List.mem_cons.mp ht with rfl | hm
      · rw [e] at ht'; cases ht'
      · have := filt_lt (g := g) ⟨t', hm, ht'⟩
        omega
theorem bk_of {env : Env} (h : env.scope.kind = .function) : env.blockKind = .function := by
  unfold Env.blockKind
  rw [h]
  rfl
theorem sw_none {ts : List Expr} {v : Expr} {k : Nat} {tp : Pos} {env : Env} (h : swapNone env.scope ts v = true) (hk : env.scope.kind = .function) : swappedStores [.Tuple ts k tp] v env = pure none := by
  cases v with
  | Tuple vs k2 p2 =>
    unfold swapNone at h
    simp only [Bool.or_eq_true, Bool.not_eq_true', Bool.or_eq_false_iff, decide_eq_false_iff_not] at h
    unfold swappedStores
    simp only [bk_of hk]
    split
    · rfl
    · rename_i q1
      split
      · rfl
      · split
        · rfl
        · rename_i q2
          split
          · rfl
          · rename_i q3
            exfalso
            simp only [Bool.or_eq_true, Bool.not_eq_true', Bool.or_eq_false_iff, beq_eq_false_iff_ne, bne_iff_ne, ne_eq, not_or, not_and, Decidable.not_not] at q1 q2
            rcases h with (h | h) | h
            · exact h.2 (q1.1.1 h.1)
            · rw [List.any_eq_true] at h
              obtain ⟨t, ht, h⟩ := h
              have lt := filt_lt (g := fun x => match x with
                | Expr.Name id pos => if (env.kindOf id == some .local && pos.line == (ts.head?.map (·.pos.line)).getD 0) = true then some id else none
                | _ => none) ⟨t, ht, by
                  cases t <;> first | rfl | skip
                  rename_i x pos
                  simp only [Bool.not_eq_true'] at h
                  have : (env.kindOf x == some .local) = false := by
                    cases e : env.kindOf x with
                    | none => rfl
                    | some k =>
                      cases k <;> first | rfl | skip
                      exfalso
                      unfold locl at h
                      have e' : env.scope.names.lookup x = some .local := e
                      rw [e'] at h
                      cases h
                  simp only [this, Bool.false_and]
                  rfl⟩
              have q2' := q2.1
              exact absurd q2' (Nat.ne_of_lt lt)
            · exact absurd h q3
  | _ => rfl

theorem sw_par {x y : Str} {px py tp p2 : Pos} {a b : Expr} {k k2 : Nat} {env : Env} (hk : env.scope.kind = .function) (hx : env.scope.names.lookup x = some .local) (hy : env.scope.names.lookup y = some .local) (hl : py.line = px.line) (hn : x ≠ y)
    (ha : starless a = true) (hb : starless b = true) (h1 : ([a, b].all (foldedForSure 8)) = false) (h2 : ([a, b].all (constantsAlone 8)) = false) : swappedStores [.Tuple [.Name x px, .Name y py] k tp] (.Tuple [a, b] k2 p2) env = pure (some [x, y]) := by
  have kx : env.kindOf x = some .local := hx
  have ky : env.kindOf y = some .local := hy
  have hs : ([a, b].any fun | .Starred .. => true | _ => false) = false := by
    have e1 : ∀ {c : Expr}, starless c = true → (match c with | .Starred .. => true | _ => false) = false := fun {c} h => by
      cases c <;> first | rfl | cases h
    simp only [List.any_cons, List.any_nil, Bool.or_false, Bool.or_eq_false_iff]
    exact ⟨e1 ha, e1 hb⟩
  have nyx : ¬ (y = x) := fun e => hn e.symm
  unfold swappedStores
  simp only [bk_of hk]
  split
  · rename_i q
    cases q
  · split
    · rename_i q
      exact Bool.noConfusion (hs.symm.trans q)
    · split
      · rename_i q
        exfalso
        simp [kx, ky, hl, Expr.pos, List.eraseDups_cons, nyx] at q
      · split
        · rename_i q
          exact Bool.noConfusion (h1.symm.trans q)
        · split
          · rename_i q
            exact Bool.noConfusion (h2.symm.trans q)
          · simp [kx, ky, hl, Expr.pos]
theorem sw_false {elt : Expr} {gs : List Comprehension} {scope : Scope} {pos py : Pos} {y : Str} {l : Nat} {env : Env} (h : (locl env.scope y && py.line == pos.line && !(scope.names.any fun (n, k) => n == y && (k == .local || k == .cell))) = false) : swapsWith (.ListComp elt gs scope pos) (some (.Name y py)) l env = pure false := by
  have e : (env.kindOf y == some .local) = locl env.scope y := by
    unfold locl
    show ((env.scope.names.lookup y) == some .local) = _
    cases env.scope.names.lookup y with
    | none => rfl
    | some k => cases k <;> rfl
  unfold swapsWith
  simp only [e, Expr.pos]
  show pure (env.blockKind == _ && locl env.scope y && py.line == pos.line && !(scope.names.any fun (n, k) => n == y && (k == .local || k == .cell))) = pure false
  rw [Bool.and_assoc, Bool.and_assoc, ← Bool.and_assoc (locl env.scope y), h, Bool.and_false]
section
variable {A0 B : Addr → Prop} {H0 : Hp} {C : Addr} {W : WX}
def StOk (p : PC) (f : Fx) (wd : Words) (nw : Str) (pr : List FD) (n : Nat) (s : Sx) : Prop := ∀ (X : Cx) (m : MC) (C : Addr) (W : WX) (st : Stmt), SOk p f wd nw pr n X m → L2N.Takes X W → mS p m s st = true → ∀ (A0 B : Addr → Prop) (H0 : Hp), (∀ a, B a → ∃ vs, H0 a = some (.lst vs)) →
  PS X st (tS (gx X f) C wd nw (run wd nw pr n) A0 B H0 W s)
def StsOk (p : PC) (f : Fx) (wd : Words) (nw : Str) (pr : List FD) (n : Nat) (s : List Sx) : Prop := ∀ (X : Cx) (m : MC) (C : Addr) (W : WX) (st : List Stmt), SOk p f wd nw pr n X m → L2N.Takes X W → mSs p m s st = true → ∀ (A0 B : Addr → Prop) (H0 : Hp), (∀ a, B a → ∃ vs, H0 a = some (.lst vs)) →
  PSs X st (tSs (gx X f) C wd nw (run wd nw pr n) A0 B H0 W s)
theorem set_ok (h : SOk p f wd nw pr n X m) (tk : L2N.Takes X W) {i : Nat} {e : Ex} {y : Str} {py spos : Pos} {x : Expr} (hy : m.N[i]? = some y) (hl : loccell m.sc y = true) (hv : e.val = true) (he : mE p m e x = true) : PS X (.Assign [.Name y py] x spos) (tAsg (tE (gx X f) C wd nw (run wd nw pr n) W e) (gName i)) := by
  have base : PE X x (tE (gx X f) C wd nw (run wd nw pr n) W e) := (e_ok e X m C W x h.kind h.x tk hv he).1
  have fin : ∀ (hs : swapsWith x (some (.Name y py)) spos.line X.env = pure false), PS X (.Assign [.Name y py] x spos) (tAsg (tE (gx X f) C wd nw (run wd nw pr n) W e) (gName i)) := fun hs =>
    ps_set h.x.nd (by rw [h.x.N]; exact hy) (h.loc y hl).1 base hs (h.loc y hl).2
  by_cases hc : noComp x = true
  · exact fin (noSwap hc)
  · cases x <;> first | exact absurd rfl hc | skip
    · rename_i elt' gs scope pos
      cases hsw : locl X.env.scope y && py.line == pos.line && !(scope.names.any fun (n, k) => n == y && (k == .local || k == .cell)) with
      | false => exact fin (sw_false hsw)
      | true =>
        simp only [Bool.and_eq_true, Bool.not_eq_true'] at hsw
        obtain ⟨⟨w1, w2⟩, w3⟩ := hsw
        have hll : m.sc.names.lookup y = some .local := by
          rw [h.x.sc] at w1
          unfold locl at w1
          split at w1
          · assumption
          · cases w1
        cases e <;> first | (simp [mE] at he; done) | skip
        rename_i own tg src ifs elt
        cases gs with
        | nil => cases he
        | cons g0 gs =>
        obtain ⟨tg', it', ifs', as⟩ := g0
        cases gs with
        | cons _ _ => simp [mE] at he
        | nil =>
        by_cases h0 : as = 0
        case neg => simp [mE, h0] at he
        subst h0
        simp only [mE, Bool.and_eq_true] at he
        obtain ⟨⟨⟨⟨⟨⟨⟨⟨⟨e1, e2⟩, e3⟩, e4⟩, e5⟩, e6⟩, e7⟩, e8⟩, e9, e10⟩, e11⟩ := he
        have hk := h.kind
        have hk' : (m.blk scope).sc.kind = .function := by
          have z := (blkOk_by e1).kind
          exact z
        cases hh : m.hot with
        | false =>
          exact ps_setLc' (C := C) (W := W) h.x hh hk hy hll w2 w3 (src_ok hk h.x tk (fun _ => e_ok src) (fun a ea => by subst ea; exact e_ok a) (fun a b ea => by subst ea; exact ⟨e_ok a, e_ok b⟩) e5 e6) e1 (own_sub e2)
            (fun s H D cl fp => pg_ok (X := X.blk s H scope (compEnvC scope cl D X.env) fp) (f := f) (C := C) (m := ⟨m.N, scope, m.er, m.hot⟩) h.x.N h.x.nd (.inl (h.x.calm hh)) (fun y hy => loc_of h.x y hy) tg tg' e4)
            (fun s H D cl fp => pts_ok (l_ok ifs (X.blk s H scope (compEnvC scope cl D X.env) fp) (m.blk scope) C W0 ifs' hk' (h.x.blk hh hk) LamN.takes0 e7).2.2 (of_decide_eq_true e8))
            (fun s H D cl fp => (e_ok elt (X.blk s H scope (compEnvC scope cl D X.env) fp) (m.blk scope) C W0 elt' hk' (h.x.blk hh hk) LamN.takes0 e9 e10).1) (mE_starless e5)
        | true =>
          have hv2 : src.val = true := by simpa [hh] using e11
          exact ps_setLcH' (C := C) (W := W) h.x hh hk hy hll w2 w3 (pi_valH' (e_ok src X m C W it' hk h.x tk hv2 e5).1) e1 (own_sub e2)
            (fun p0 h0 s H D cl fp => pg_ok (X := EvHot.blkH X p0 s H scope (compEnvC scope cl D X.env) fp) (f := f) (C := C) (m := ⟨m.N, scope, m.er, m.hot⟩) h.x.N h.x.nd (.inr (EvHot.blkH_hot h0)) (fun y hy => loc_of h.x (s := s) (H := H) (cl := cl) (D := D) (fp := fp) y hy) tg tg' e4)
            (fun p0 h0 s H D cl fp => pts_ok (l_ok ifs (EvHot.blkH X p0 s H scope (compEnvC scope cl D X.env) fp) (m.blk scope) C W0 ifs' hk' (h.x.blkH hh h0 hk) LamN.takes0 e7).2.2 (of_decide_eq_true e8))
            (fun p0 h0 s H D cl fp => (e_ok elt (EvHot.blkH X p0 s H scope (compEnvC scope cl D X.env) fp) (m.blk scope) C W0 elt' hk' (h.x.blkH hh h0 hk) LamN.takes0 e9 e10).1) (mE_starless e5)
    · cases e <;> simp [mE] at he
    · cases e <;> simp [mE] at he
theorem locl_of {sc : Scope} {y : Str} (h : locl sc y = true) : sc.names.lookup y = some .local := by
  unfold locl at h
  split at h
  · assumption
  · cases h
mutual
theorem s_ok : ∀ s : Sx, StOk p f wd nw pr n s
  | .set i e => fun X m C W st h tk hm A0 B H0 hB => by
    cases st <;> first | (cases hm; done) | skip
    rename_i tgs x pos
    cases tgs with
    | nil => cases hm
    | cons t tgs =>
    cases tgs with
    | cons _ _ => cases t <;> cases hm
    | nil =>
    cases t <;> first | (cases hm; done) | skip
    simp only [mS, Bool.and_eq_true, decide_eq_true_eq] at hm
    obtain ⟨⟨h1, h2⟩, h3, h4⟩ := hm
    exact ps_set' hB (by rw [h.x.N]; exact (List.getElem?_eq_some_iff.mp h1).1) (set_ok h tk h1 h2 h3 h4)
  | .asg ts e => fun X m C W st h tk hm A0 B H0 hB => by
    cases st <;> first | (cases hm; done) | skip
    rename_i tgs x pos
    cases tgs with
    | nil => cases hm
    | cons t tgs =>
    cases tgs with
    | cons _ _ => cases t <;> cases hm
    | nil =>
    cases t <;> first | (cases hm; done) | skip
    simp only [mS, Bool.and_eq_true] at hm
    obtain ⟨⟨⟨h1, h2, h3⟩, h4⟩, h5⟩ := hm
    have hk : X.env.scope.kind = .function := by rw [h.x.sc]; exact h.kind
    exact ps_asg' hB (ps_asg (e_ok e X m C W x h.kind h.x tk h2 h3).1 (pg_ok (m := m) h.x.N h.x.nd h.x.heat h.loc (.t ts) (.Tuple _ _ _) h1) (noSwapS h4) (sw_none (by rw [h.x.sc]; exact h5) hk))
  | .par is es => fun X m C W st h tk hm A0 B H0 hB => by
    cases is with
    | nil => cases hm
    | cons i is =>
    cases is with
    | nil => cases hm
    | cons j is =>
    cases is with
    | cons _ _ => cases hm
    | nil =>
    cases es with
    | nil => cases hm
    | cons a es =>
    cases es with
    | nil => cases hm
    | cons b es =>
    cases es with
    | cons _ _ => cases hm
    | nil =>
    unfold mS at hm
    unfold mPar at hm
    split at hm
    · simp only [Bool.and_eq_true, decide_eq_true_eq, Bool.not_eq_true', decide_eq_false_iff_not] at hm
      obtain ⟨⟨⟨⟨⟨⟨⟨⟨⟨⟨h1, h2⟩, h3⟩, h4⟩, h5⟩, h6⟩, h7⟩, ⟨h8, h9⟩, h10, h11⟩, h12⟩, h13⟩, hh⟩ := hm
      have hk : X.env.scope.kind = .function := by rw [h.x.sc]; exact h.kind
      have l1 := locl_of h4
      have l2 := locl_of h5
      rw [← h.x.sc] at l1 l2
      rw [← h.x.N] at h1 h2
      have ra := (e_ok a X m C W _ h.kind h.x tk h8 h9).1
      have rb := (e_ok b X m C W _ h.kind h.x tk h10 h11).1
      exact ps_par2' hB (List.getElem?_eq_some_iff.mp h1).1 (List.getElem?_eq_some_iff.mp h2).1 ra rb (ps_par (h.x.calm hh) h.x.nd h1 h2 h3 l1 l2 (pa_cons ra (pa_cons rb pa_nil (star_of (mE_starless h11))) (star_of (mE_starless h9))) (sw_par hk l1 l2 h6 h7 (mE_starless h9) (mE_starless h11) h12 h13))
    · cases hm
  | .sub i k e => fun X m C W st h tk hm A0 B H0 hB => by
    unfold mS at hm
    unfold mSub at hm
    split at hm
    · simp only [Bool.and_eq_true, decide_eq_true_eq] at hm
      obtain ⟨⟨⟨⟨⟨h1, h2⟩, h3⟩, h4, h5⟩, h6, h7⟩, h8⟩ := hm
      exact ps_sub' hB (by rw [h.x.N]; exact h1) (h.x.vis h2) h3 (e_ok e X m C W _ h.kind h.x tk h4 h5).1 (e_ok k X m C W _ h.kind h.x tk h6 h7).1 h8 (mE_starless h7)
    · cases hm
  | .app i e => fun X m C W st h tk hm A0 B H0 hB => by
    unfold mS at hm
    unfold mApp at hm
    split at hm
    · simp only [Bool.and_eq_true, decide_eq_true_eq] at hm
      obtain ⟨⟨⟨⟨⟨h1, h2⟩, h3⟩, h4⟩, h5, h6⟩, h7⟩ := hm
      subst h4
      exact ps_app' hB (by rw [h.x.N]; exact h1) (h.x.vis h2) h3 (e_ok e X m C W _ h.kind h.x tk h5 h6).1 (mE_starless h6) h7
    · cases hm
  | .exp e => fun X m C W st h tk hm A0 B H0 hB => by
    cases st <;> first | (cases hm; done) | skip
    simp only [mS, Bool.and_eq_true] at hm
    exact ps_exp' hB (e_ok e X m C W _ h.kind h.x tk hm.1.1 hm.1.2).1 hm.2
  | .ret e => fun X m C W st h tk hm A0 B H0 hB => by
    cases st <;> first | (cases hm; done) | skip
    rename_i o pos
    cases o with
    | none => cases hm
    | some x =>
    simp only [mS, Bool.and_eq_true] at hm
    exact ps_ret' hB (e_ok e X m C W _ h.kind h.x tk hm.1 hm.2).1
  | .ite c a b => fun X m C W st h tk hm A0 B H0 hB => by
    cases st <;> first | (cases hm; done) | skip
    simp only [mS, Bool.and_eq_true] at hm
    obtain ⟨⟨⟨h1, h2⟩, h3⟩, h4⟩ := hm
    exact ps_ite' hB (e_ok c X m C W _ h.kind h.x tk h1 h2).2 (ss_ok a X m C W _ h tk h3 A0 B H0 hB) (ss_ok b X m C W _ h tk h4 A0 B H0 hB)
  | .for_ tg src body => fun X m C W st h tk hm A0 B H0 hB => by
    cases st <;> first | (cases hm; done) | skip
    rename_i tg' it' sts els pos
    cases els with
    | cons _ _ => cases hm
    | nil =>
    simp only [mS, Bool.and_eq_true, Bool.not_eq_true'] at hm
    obtain ⟨⟨⟨⟨h1, h2⟩, h3⟩, h4⟩, hh⟩ := hm
    exact ps_for' (h.po hh) (h.x.calm hh) hB (src_ok h.kind h.x tk (fun _ => e_ok src) (fun a ea => by subst ea; exact e_ok a) (fun a b ea => by subst ea; exact ⟨e_ok a, e_ok b⟩) h2 h3) (pg_ok (m := m) h.x.N h.x.nd h.x.heat h.loc tg tg' h1)
      (fun A1 B1 H1 hB1 => ss_ok body X m C W _ h tk h4 A1 B1 H1 hB1) (mE_starless h2)
  | .raise k => fun X m C W st h tk hm A0 B H0 hB => by
    unfold mS at hm
    unfold mRaise at hm
    split at hm
    · simp only [Bool.and_eq_true, decide_eq_true_eq, Bool.not_eq_true'] at hm
      obtain ⟨⟨⟨h1, h2⟩, h3⟩, hh⟩ := hm
      obtain ⟨B', newId, initId, bmB, F, q, gC, kC, r⟩ := h.ra hh k _ h1
      exact ps_raise' hB (psImpL (L2N.ps_raise (h.x.calm hh) tk (L2N.pmk_own F q gC kC r (h.x.glb h2) (okN_of h3).1)) fun D σ H _ q => q)
    · cases hm
  | .pass => fun X m C W st h tk hm A0 B H0 hB => by
    cases st <;> first | (cases hm; done) | skip
    exact ps_pass' hB
theorem ss_ok : ∀ ss : List Sx, StsOk p f wd nw pr n ss
  | [] => fun X m C W st h tk hm A0 B H0 hB => by
    cases st with
    | cons _ _ => cases hm
    | nil => exact pss_nil' hB
  | s :: ss => fun X m C W st h tk hm A0 B H0 hB => by
    cases st with
    | nil => cases hm
    | cons t st =>
    simp only [mSs, Bool.and_eq_true] at hm
    exact pss_cons' hB (s_ok s X m C W t h tk hm.1 A0 B H0 hB) (ss_ok ss X m C W st h tk hm.2 A0 B H0 hB)
end
end
end
end Ev

/-! Every def keeps its promise. -/
namespace Ev
open PySem PySem.Spec PyProof.Rows L2 LamX
/-- the program: what stands in K, what the names say -/
structure Sys where
  P : Program
  w : World
  K : PySem.W.Frag
  mg : Str → Option Value
  base : Heap
abbrev Sys.g (S : Sys) (f : Fx) : G := ⟨S.K, S.mg, f.fa, f.ca, f.T, f.kn, f.xa, f.xk⟩
structure Sys.Is (S : Sys) (X : Cx) : Prop where
  P : X.prog = S.P
  w : X.w = S.w
  K : X.K = S.K
  mg : X.mg = S.mg
  base : X.base = S.base
/-- the def that gives an error its word -/
def ErS (S : Sys) (p : PC) (f : Fx) (wd : Words) (nw : Str) : Prop :=
  ∃ (ge : Addr) (pg : Arguments) (bg : List Stmt) (sg : Scope) (dV kV doc pm cdv ct oc : Value) (an od : Option Addr) (osl : Array (Option Value)) (Ng : List Str) (a : Str),
    S.mg p.er = some (.ref ge) ∧ PySem.W.keepIn S.K (.ref ge) = true ∧ S.K.lookup ge = some ⟨oc, od, .func (PySem.W.fnOf p.er p.er pg bg sg dV kV doc pm an cdv ct), osl⟩ ∧ PySem.W.codeIn S.K cdv p.er = true ∧ L2.Binds S.K (PySem.W.fnOf p.er p.er pg bg sg dV kV doc pm an cdv ct) [a] [] ∧
    FnScope Ng [a] sg ∧ Ng[0]? = some a ∧ Vis sg a ∧ (a == ("__debug__" : Str)) = false ∧ (a == ("__classdict__" : Str)) = false ∧ (∀ X, S.Is X → ∀ C q, LamN.GivesTo X Ng p.er sg ge cdv bg a q (TTe (gx X f) C wd nw))
/-- a def's own table of code objects -/
def ErD (S : Sys) (f : Fx) (qual : Str) (cdv : Value) : Prop := ∃ c Pt, TabB S.base S.mg c Pt ∧ cdv = .ref c ∧ (Pt, qual ++ "<lambda>") ∈ f.T ∧ ∀ q ∈ f.T, q.1 = Pt → q.2 = qual ++ "<lambda>"
/-- a def stands in K and says what fd says -/
def DefOk (S : Sys) (p : PC) (f : Fx) (k : Nat) (fd : FD) : Prop :=
  ∃ (x qual : Str) (pa : Arguments) (bd : List Stmt) (sc : Scope) (dV kV doc pm cdv ct oc : Value) (an od : Option Addr) (osl : Array (Option Value)) (N ps : List Str) (er : Bool),
    p.fn[k]? = some x ∧ S.K.lookup (f.fa k) = some ⟨oc, od, .func (PySem.W.fnOf x qual pa bd sc dV kV doc pm an cdv ct), osl⟩ ∧ PySem.W.codeIn S.K cdv qual = true ∧ FnScope N ps sc ∧ N.length = fd.nn ∧ ps.length = fd.np ∧
    L2.Binds S.K (PySem.W.fnOf x qual pa bd sc dV kV doc pm an cdv ct) ps [] ∧ mSs p ⟨N, sc, er, false⟩ fd.body bd = true ∧ (er = true → ErD S f (qual ++ ".<locals>.") cdv)
/-- what is known of the program -/
structure SysOk (S : Sys) (p : PC) (f : Fx) (wd : Words) (nw : Str) (pr : List FD) : Prop where
  at_ : ∀ k x, p.fn[k]? = some x → S.mg x = some (.ref (f.fa k)) ∧ PySem.W.keepIn S.K (.ref (f.fa k)) = true
  has : ∀ k x, p.fn[k]? = some x → ∃ fd, pr[k]? = some fd ∧ DefOk S p f k fd
  kn : ∀ k, f.kn k ↔ ∃ x, p.fn[k]? = some x
  bt : ∀ x ∈ p.bt, S.mg x = none
  gcd : S.mg "gcd" = some (.builtin "math.gcd")
  er : ErS S p f wd nw
  gc : ∀ q ∈ p.gc, ∃ u v, S.mg q.1 = some u ∧ RelV v u ∧ ∀ C H A, Rp (S.g f) C H A q.2 v
  ra : ∀ k y, p.cn[k]? = some y → ∃ (B newId initId : String) (bmB : List Value), ExcBaseFacts B newId initId bmB ∧ PySem.W.excIn S.K (f.ca k) bmB newId = true ∧ S.mg y = some (.ref (f.ca k)) ∧ PySem.W.keepIn S.K (.ref (f.ca k)) = true ∧ PySem.W.subIn S.K (.ref (f.ca k)) (.type "BaseException") = some true ∧ PySem.W.typeIn S.K (.ref (f.ca k)) = some (.type "type")
section
variable {S : Sys} {p : PC} {f : Fx} {wd : Words} {nw : Str} {pr : List FD} {n : Nat} {C : Addr}
theorem SysOk.erok (h : SysOk S p f wd nw pr) {X : Cx} (is : S.Is X) {qual : Str} {cdv : Value} (hq : X.env.qual = qual) (hc : X.env.code = cdv) (he : ErD S f qual cdv) (hr : Room (3 * n + 2) X.A) : ErOk p f wd nw n X := by
  obtain ⟨ge, pg, bg, sg, dV, kV, doc, pm, cdg, ct, oc, an, od, osl, Ng, a, h1, h2, h3, h4, h5, h6, h7, h8, h9, h10, h11⟩ := h.er
  obtain ⟨c, Pt, t1, t2, t3, t4⟩ := he
  subst hq
  refine ⟨ge, c, Pt, pg, bg, sg, dV, kV, doc, pm, cdg, ct, oc, an, od, osl, Ng, a, ?_, ?_, ?_, ?_, ?_, h6, h7, h8, h9, h10, fun C => h11 X is C _, ?_, hc.trans t2, t3, t4, hr⟩
  · rw [is.mg]; exact h1
  · rw [is.K]; exact h2
  · rw [is.K]; exact h3
  · rw [is.K]; exact h4
  · rw [is.K]; exact h5
  · rw [is.mg, is.base]; exact t1
/-- the context of a def's body -/
theorem SysOk.sok (h : SysOk S p f wd nw pr) (ih : ∀ k x, p.fn[k]? = some x → ∃ fd ps, Binds S.K fd ps [] ∧ FnOk S.P S.w S.K S.mg S.base (L2N.CX S.P S.w) (3 * n) (f.fa k) fd ps (SpF (S.g f) (run wd nw pr n k)))
    {N ps : List Str} {qual : Str} {sc : Scope} {er : Bool} {fo : Addr} {cdv : Value} {A : Around} {outer : List Env} {s : Shared} {H : Hp} {E : XK} (hs : FnScope N ps sc) (hr : Room (3 * n + 2) (A.deeper (envOfC qual sc s.heap.objs.size fo cdv))) (he : er = true → ErD S f (qual ++ ".<locals>.") cdv) :
    SOk p f wd nw pr n (cxOf (L2N.CX S.P S.w) S.P S.w S.K S.mg S.base N qual sc fo cdv A outer s H E) ⟨N, sc, er, false⟩ where
  x := {
    N := rfl
    nd := hs.nd
    sc := rfl
    calm := fun _ => rfl
    room := fun _ => hr.mono (by omega)
    hot := fun z => by cases z
    fn := fun k x hk => ⟨(h.at_ k x hk).1, (h.at_ k x hk).2, ih k x hk⟩
    kn := h.kn
    bt := h.bt
    gcd := h.gcd
    isx := fun z => by cases z
    gc := h.gc
    er := fun z _ => h.erok (n := n) (X := cxOf (L2N.CX S.P S.w) S.P S.w S.K S.mg S.base N qual sc fo cdv A outer s H E) (qual := qual ++ ".<locals>.") (cdv := cdv) ⟨rfl, rfl, rfl, rfl, rfl⟩ rfl rfl (he (id z)) hr }
  kind := hs.kind
  loc := fun y hy => by
    refine ⟨?_, .inl rfl⟩
    have hy : loccell sc y = true := hy
    unfold loccell at hy
    split at hy
    · exact .inl (by assumption)
    · exact .inr (by assumption)
    · cases hy
  ra := fun _ k y hk => by
    obtain ⟨B, n1, n2, bm, q1, q2, q3, q4, q5, q6⟩ := h.ra k y hk
    exact ⟨B, n1, n2, bm, q1, q2, q3, q4, raises_own q5 q6⟩
  po := fun _ => passes_of rfl
theorem start_at {ds : List D} {nn i : Nat} {b : Bool} {d : D} (e : (start ds nn)[i]? = some (some (b, d))) : b = false ∧ ds[i]? = some d := by
  unfold Ev.start at e
  by_cases hi : i < ds.length
  · rw [List.getElem?_append_left (by simpa using hi), List.getElem?_map] at e
    cases q : ds[i]? with
    | none => rw [q] at e; cases e
    | some x => rw [q] at e; cases e; exact ⟨rfl, rfl⟩
  · rw [List.getElem?_append_right (by simpa using hi), List.getElem?_replicate] at e
    split at e <;> cases e
theorem sr_start {g : G} {H : Hp} {A : Addr → Prop} {N : List Str} {ds : List D} {vs : List V} {u : Cup} {nn : Nat} (r : Rps g C H A ds vs) : SRel g C A (fun _ => False) H (start ds nn) (L2.start N vs) H := by
  refine ⟨A, fun _ => 0, ⟨fun _ _ k _ _ _ => k, fun _ vs k => ⟨vs, k⟩⟩, fun a ha => .inl ha, fun i d e => ?_, fun i d e => ?_, fun i j d d' e _ _ => ?_⟩
  · obtain ⟨v, h1, h2⟩ := r.get (start_at e).2
    refine ⟨v, ?_, h2⟩
    have hi : i < vs.length := (List.getElem?_eq_some_iff.mp h1).1
    unfold L2.start
    rw [List.getElem?_append_left (by simpa using hi), List.getElem?_map, h1]
    rfl
  · have := (start_at e).1
    cases this
  · have := (start_at e).1
    cases this
theorem ext_of {g : G} {H H' : Hp} {u u' : Cup} (w : Wd g C H u) (w' : Wd g C H' u') (x : ExtB C (fun _ => False) H H') : Ext C H H' := ⟨⟨_, w.cup⟩, ⟨_, w'.cup⟩, fun b o h n m => x.keep b o h n (fun z => z) m⟩
theorem defs_ok (h : SysOk S p f wd nw pr) : ∀ n k x, p.fn[k]? = some x → ∃ fd ps, Binds S.K fd ps [] ∧ FnOk S.P S.w S.K S.mg S.base (L2N.CX S.P S.w) (3 * n) (f.fa k) fd ps (SpF (S.g f) (run wd nw pr n k))
  | 0, k, x, hk => by
    obtain ⟨fd, e, x', qual, pa, bd, sc, dV, kV, doc, pm, cdv, ct, oc, an, od, osl, N, ps, er, h1, h2, h3, h4, h5, h6, h7, h8, h9⟩ := h.has k x hk
    refine ⟨_, ps, h7, fun vs H Q E q => ?_, fun A outer s H args us vs Q E _ _ _ _ q => ?_⟩
    · obtain ⟨C, A, ds, u, _, _, o⟩ := q
      exact (show False from o).elim
    · obtain ⟨C, A, ds, u, _, _, o⟩ := q
      exact (show False from o).elim
  | n + 1, k, x, hk => by
    obtain ⟨fd, e, x', qual, pa, bd, sc, dV, kV, doc, pm, cdv, ct, oc, an, od, osl, N, ps, er, h1, h2, h3, h4, h5, h6, h7, h8, h9⟩ := h.has k x hk
    refine ⟨_, ps, h7, fn_of (k := 3 * n + 2) h2 h3 h4 (fun vs H Q E q => ?_) fun A outer s H vs Q E hr q => ?_⟩
    · obtain ⟨C, A, ds, u, r, _, o⟩ := q
      simp only [run, e] at o
      split at o
      · rename_i hl
        rw [← r.length, hl, h6]
      · exact (show False from o).elim
    · obtain ⟨C, A0, ds, u, r, w, o⟩ := q
      simp only [run, e] at o
      split at o
      case isFalse => exact (show False from o).elim
      case isTrue hl =>
      let W : WX := fun cls d _ H => E cls d H
      have so := h.sok (n := n) (defs_ok h n) (E := E) (outer := outer) (s := s) (H := H) h4 hr h9
      refine ⟨_, ss_ok fd.body _ _ C W bd so (L2N.takes_of rfl rfl rfl rfl) h8 A0 (fun _ => False) H (fun _ z => z.elim), start ds fd.nn, u, sr_start (u := u) r, w, ?_⟩
      show SOut _ C A0 _ H W _ (evSs wd nw (run wd nw pr n) fd.body (start ds fd.nn) u)
      cases eS : evSs wd nw (run wd nw pr n) fd.body (start ds fd.nn) u with
      | next env1 u1 =>
        rw [eS] at o
        intro σ' H' hr' w'
        obtain ⟨F, ow, hr'⟩ := hr'
        exact o .non H' (ext_of w w' hr'.ext) w' rfl
      | ret d u1 =>
        rw [eS] at o
        intro v H' x' w' rv
        exact o v H' (ext_of w w' x') w' (rv.mono fun a ha => ha.elim .inl fun z => z.elim (fun z => z.elim) .inr)
      | exc j u1 =>
        rw [eS] at o
        intro σ' H' x' w'
        exact o H' (ext_of w w' x') w'
      | bad =>
        rw [eS] at o
        exact o
end
end Ev

/-! The def that gives an error its word. -/
namespace Ev
open PySem PySem.Spec PyProof.Rows L2 LamX
def exEnv (nn i k : Nat) : En := (List.replicate nn none).set i (some (false, .exc k))
theorem exEnv_at {nn i k j : Nat} {b : Bool} {d : D} (e : (exEnv nn i k)[j]? = some (some (b, d))) : j = i ∧ b = false ∧ d = .exc k := by
  unfold exEnv at e
  by_cases h : i = j
  · subst h
    by_cases hl : i < (List.replicate nn (none : Sl)).length
    · rw [List.getElem?_set_self hl] at e
      cases e
      exact ⟨rfl, rfl, rfl⟩
    · rw [List.getElem?_eq_none (by rw [List.length_set]; omega)] at e
      cases e
  · rw [List.getElem?_set_ne h, List.getElem?_replicate] at e
    split at e <;> cases e
def PC.bare (p : PC) : PC := ⟨[], p.cn, p.bt, [], p.er, p.sb⟩
def Fx.at (f : Fx) (a : Addr) (k : Nat) : Fx := ⟨f.fa, f.ca, f.T, fun _ => False, a, k⟩
abbrev nocall : Nat → List D → Cup → Re D := fun _ _ _ => .bad
/-- what is known of the handler's classes -/
structure HdOk (S : Sys) (p : PC) (f : Fx) (wd : Words) (nw : Str) (CS : Addr) (nn i : Nat) (suite : List Sx) : Prop where
  cls : ∀ k x, wd k = some x → PySem.W.exmOne S.K (.ref (f.ca k)) (.ref CS) = some true ∧ ExcC S.K (f.ca k) ∧ ∀ j b, p.sb k j = some b → PySem.W.kitOne S.K (.ref (f.ca k)) (.ref (f.ca j)) = some b
  ev : ∀ k x, wd k = some x → ∀ u, evSs wd nw nocall suite (exEnv nn i k) u = .ret (.str x) u
  bt : ∀ x ∈ p.bt, S.mg x = none
  gcd : S.mg "gcd" = some (.builtin "math.gcd")
  cn : ∀ k x, p.cn[k]? = some x → S.mg x = some (.ref (f.ca k))
theorem evS_wd {p : PC} {wd : Words} {nw : Str} {n : Nat} : run wd nw [] n = nocall := by
  funext k ds u
  cases n with
  | zero => rfl
  | succ n => simp [run]
section
variable {S : Sys} {p : PC} {f : Fx} {wd : Words} {nw : Str} {C : Addr}
theorem gives_ok {CS ge : Addr} {Ng : List Str} {i : Nat} {cdv : Value} {sg : Scope} {a x e : Str} {suiteS : List Sx} {b₀ : Stmt} {suite : List Stmt} {j : Nat} {p1 p2 p3 p4 p5 p6 p7 p8 : Pos} (h : HdOk S p f wd nw CS Ng.length i suiteS) (hx : S.mg x = some (.ref CS)) (hgl : sg.names.lookup x = some .globalImplicit) (hdx : (x == ("__debug__" : Str)) = false)
    (hFS : FnScope Ng [a] sg) (hi : Ng[i]? = some e) (hle : sg.names.lookup e = some .local) (hm : mSs p.bare ⟨Ng, sg, true, true⟩ suiteS (b₀ :: suite) = true) :
    ∀ X, S.Is X → ∀ C q, LamN.GivesTo X Ng p.er sg ge cdv [.Try [.Expr (.Call (.Name a p1) [] [] p2) p3] [.ExceptHandler (some (.Name x p4)) (some e) (b₀ :: suite) p5] [] [] p6, .Return (some (.Constant (.str nw) j p7)) p8] a q (TTe (gx X f) C wd nw) := by
  intro X is C q fa' c' s H Q tl act hc' htt
  have hNg0 : 0 < Ng.length := by
    have := hFS.pre
    cases Ng with
    | nil => simp at this
    | cons _ _ => simp
  let XX := (cxOf C8.CX0 X.prog X.w X.K X.mg X.base Ng p.er sg ge cdv X.A X.stack s H C8.E0).nox
  have hnames : Names XX x (.ref CS) := ⟨hgl, hdx, .inl (by rw [← hx, ← is.mg]; rfl)⟩
  have hit : i < Ng.length := (List.getElem?_eq_some_iff.mp hi).1
  let tb : WX → TS := fun W D σ H => ∃ Ech : XK, (∀ cls d (σ' : L2.St) H', σ'.length = Ng.length → Ech cls d H' → W cls d σ' H') ∧ σ[0]? = some (some (.ref fa')) ∧ H c' = some (CodeO c' q) ∧ tl Ech H (fun _ H' => D.nx σ H')
  let ts : Addr → Value → Option Addr → TS := fun ad cls d D σ H => ∃ k, cls = .ref (f.ca k) ∧ d = none ∧ (∃ x, wd k = some x) ∧ tSs (gx XX (f.at ad k)) C wd nw nocall (fun _ => False) (fun _ => False) H W0 suiteS D σ H
  have htry : PS XX (.Try [.Expr (.Call (.Name a p1) [] [] p2) p3] [.ExceptHandler (some (.Name x p4)) (some e) (b₀ :: suite) p5] [] [] p6) (fun D σ H => tb (wAs XX.K (.ref CS) i ts W0 D) D σ H) := by
    refine L2N.ps_try_as (X := XX) (tb := tb) (ts := ts) rfl rfl hFS.nd hi hle hnames LamN.takes0 (fun W pn xe tk _ => ?_) (fun ad oe cls d pn hz hf => ?_)
    · refine ⟨fun pins s' σ H' D I h' => ?_⟩
      obtain ⟨Ech, hW, h1, h2, h3⟩ := h'
      have hp := act W pn xe Ech p1 p2 tk hW
      exact (pss_one (ps_expr (pos := p3) hp (by rfl))).run pins s' σ H' D I ⟨h1, h2, h3⟩
    · refine ⟨fun pins s' σ H' D I h' => ?_⟩
      obtain ⟨k, rfl, rfl, ⟨w0, hw0⟩, h'⟩ := h'
      obtain ⟨hex, hEx, hsb⟩ := h.cls k w0 hw0
      have hot : L2H.HotC (XX.suite ad ((ad, oe) :: pn)) := by
        obtain ⟨vs, hv⟩ := hf
        exact ⟨(ad, oe), ⟨rfl, vs, hv, hz.2.2 vs hv⟩, List.mem_cons_self⟩
      have eK : XX.K = S.K := is.K
      have eM : XX.mg = S.mg := is.mg
      have so : SOk p.bare (f.at ad k) wd nw [] 0 (XX.suite ad ((ad, oe) :: pn)) ⟨Ng, sg, true, true⟩ := {
        x := {
          N := rfl
          nd := hFS.nd
          sc := rfl
          calm := fun z => by cases z
          room := fun z => by cases z
          hot := fun _ => hot
          fn := fun k x hk => by simp [PC.bare] at hk
          kn := fun k => ⟨fun z => z.elim, fun ⟨x, z⟩ => by simp [PC.bare] at z⟩
          bt := fun y hy => by show XX.mg y = none; rw [eM]; exact h.bt y hy
          gcd := by show XX.mg "gcd" = _; rw [eM]; exact h.gcd
          isx := fun _ _ => by
            refine ⟨call_isE (X := XX) (D := f.ca k) (by rw [eK]; exact hEx) hz.zc hf, fun j b hb => ?_, fun j y hy => ?_⟩
            · show PySem.W.kitOne XX.K _ _ = _
              rw [eK]
              exact hsb j b hb
            · show XX.mg y = _
              rw [eM]
              exact h.cn j y hy
          gc := fun z hz => by simp [PC.bare] at hz
          er := fun _ z => by cases z }
        kind := hFS.kind
        loc := fun y hy => by
          refine ⟨?_, .inl rfl⟩
          have hy : loccell sg y = true := hy
          unfold loccell at hy
          split at hy
          · exact .inl (by assumption)
          · exact .inr (by assumption)
          · cases hy
        ra := fun z => by cases z
        po := fun z => by cases z }
      have hss := ss_ok suiteS (XX.suite ad ((ad, oe) :: pn)) ⟨Ng, sg, true, true⟩ C W0 (b₀ :: suite) so LamN.takes0 hm (fun _ => False) (fun _ => False) H' (fun _ z => z.elim)
      rw [evS_wd (p := p)] at hss
      exact hss.run pins s' σ H' D I h'
  have hret : PS XX (.Return (some (.Constant (.str nw) j p7)) p8) (tRet (tC (.str nw))) := ps_ret pe_str
  refine ⟨_, pss_cons htry (pss_one hret), ?_⟩
  refine ⟨fun cls d H' => d = none ∧ ∃ k x u, cls = .ref (f.ca k) ∧ wd k = some x ∧ Wd (gx X f) C H' u ∧ ∀ H'', Ext C H' H'' → Wd (gx X f) C H'' u → Q (.str x) H'', ?_, rfl, hc', ?_⟩
  · rintro cls d σ' H' hlen ⟨rfl, k, w0, u, rfl, hw0, wdk, hq⟩
    refine ⟨true, ?_, fun _ ad na => ?_, fun z => by cases z⟩
    · show PySem.W.exmOne X.K _ _ = _
      rw [is.K]
      exact (h.cls k w0 hw0).1
    · refine ⟨k, rfl, rfl, ⟨w0, hw0⟩, exEnv Ng.length i k, u, ?_, ⟨wdk.cup, wdk.tabs⟩, ?_⟩
      · refine ⟨fun _ => False, fun _ => 0, ⟨fun _ _ k _ _ _ => k, fun _ vs k => ⟨vs, k⟩⟩, fun a ha => ha.elim, fun j d e' => ?_, fun j d e' => ?_, fun j l d d' e' _ _ => ?_⟩
        · obtain ⟨rfl, _, rfl⟩ := exEnv_at e'
          exact ⟨.ref ad, List.getElem?_set_self (by omega), rfl, rfl⟩
        · have := (exEnv_at e').2.1
          cases this
        · have := (exEnv_at e').2.1
          cases this
      · rw [h.ev k w0 hw0 u]
        intro v H'' xt w'' rv
        have ev : v = .str w0 := rv
        subst ev
        exact hq H'' (ext_of (g := gx X f) (u := u) (u' := u) wdk ⟨w''.cup, w''.tabs⟩ xt) ⟨w''.cup, w''.tabs⟩
  · exact htt
end
end Ev

/-! From what stands in K to SysOk. -/
namespace Ev
open PySem PySem.Spec PyProof.Rows L2 LamX
/-- the def x of the text stands at fo -/
structure DF (K : PySem.W.Frag) (x : Str) (st : Stmt) (fo : Addr) (cdv : Value) : Prop where
  a : PySem.W.nsIn K mainGlobals x = some (some (.ref fo))
  k : PySem.W.keepIn K (.ref fo) = true
  l : ∃ (oc : Value) (od : Option Addr) (kV doc pm : Value) (an : Option Addr) (ct : Value) (osl : Array (Option Value)), K.lookup fo = some ⟨oc, od, .func (PySem.W.fnOf x x (defArgs st) (defBody st) (defScope st) .none kV doc pm an cdv ct), osl⟩
  c : PySem.W.codeIn K cdv x = true
theorem DF.mk' {K : PySem.W.Frag} {x : Str} {st : Stmt} {fo : Addr} {cdv : Value} {oc : Value} {od : Option Addr} {kV doc pm : Value} {an : Option Addr} {ct : Value} {osl : Array (Option Value)} (a : PySem.W.nsIn K mainGlobals x = some (some (.ref fo)))
    (l : K.lookup fo = some ⟨oc, od, .func (PySem.W.fnOf x x (defArgs st) (defBody st) (defScope st) .none kV doc pm an cdv ct), osl⟩) (c : PySem.W.codeIn K cdv x = true) (k : PySem.W.keepIn K (.ref fo) = true) : DF K x st fo cdv := ⟨a, k, ⟨oc, od, kV, doc, pm, an, ct, osl, l⟩, c⟩
def scOk (N ps : List Str) (sc : Scope) : Bool := decide (sc.kind = .function) && !sc.isCoroutine && !sc.isGenerator && decide N.Nodup && decide (N.take ps.length = ps) && ps.all (fun x => loccell sc x) && sc.names.all fun y => !decide (y.2 = .free)
theorem sc_of {N ps : List Str} {sc : Scope} (h : scOk N ps sc = true) : FnScope N ps sc := by
  unfold scOk at h
  simp only [Bool.and_eq_true, decide_eq_true_eq, Bool.not_eq_true', List.all_eq_true, decide_eq_false_iff_not] at h
  obtain ⟨⟨⟨⟨⟨⟨h1, h2⟩, h3⟩, h4⟩, h5⟩, h6⟩, h7⟩ := h
  refine ⟨h1, h2, h3, h4, h5, fun x hx => ?_, h7⟩
  have z := h6 x hx
  unfold loccell at z
  split at z
  · exact .inl (by assumption)
  · exact .inr (by assumption)
  · cases z
/-- all that is looked at in a def's text -/
def defChk (p : PC) (N ps : List Str) (er : Bool) (fd : FD) (st : Stmt) : Bool := scOk N ps (defScope st) && decide (N.length = fd.nn) && decide (ps.length = fd.np) && mSs p ⟨N, defScope st, er, false⟩ fd.body (defBody st)
/-- its arguments bind -/
def BindF (x : Str) (st : Stmt) (ps : List Str) : Prop := ∀ (kV doc pm : Value) (an : Option Addr) (cdv ct : Value) (us : List Value), us.length = ps.length → bindArgs (PySem.W.fnOf x x (defArgs st) (defBody st) (defScope st) .none kV doc pm an cdv ct) ⟨us, []⟩ = pure (ps.zip us)
theorem defOk_of {S : Sys} {p : PC} {f : Fx} {k : Nat} {fd : FD} {x : Str} {st : Stmt} {cdv : Value} {N ps : List Str} {er : Bool} (hx : p.fn[k]? = some x) (F : DF S.K x st (f.fa k) cdv) (hb : BindF x st ps) (h : defChk p N ps er fd st = true) (he : er = true → ErD S f (x ++ ".<locals>.") cdv) : DefOk S p f k fd := by
  unfold defChk at h
  simp only [Bool.and_eq_true, decide_eq_true_eq] at h
  obtain ⟨⟨⟨h2, h3⟩, h4⟩, h5⟩ := h
  obtain ⟨oc, od, kV, doc, pm, an, ct, osl, l⟩ := F.l
  exact ⟨x, x, defArgs st, defBody st, defScope st, .none, kV, doc, pm, cdv, ct, oc, an, od, osl, N, ps, er, hx, l, F.c, sc_of h2, h3, h4, .all (hb kV doc pm an cdv ct), h5, he⟩
end Ev

/-! The laws' _law_cup, by hand. -/
namespace Ev
open PySem PySem.Spec PyProof.Rows L2 LamX
/-- the cup of a script -/
def cellOf (ns : List Int) : Int := let z := (ns ++ [0]).headD 0; if z < 0 then -z else z
def cup0 (ns : List Int) : Cup := (if (10 : Int) ^ 18 ≤ cellOf ns then cellOf ns / 251 else 0, (cellOf ns * 509 + 7753) % 99833 + 367)
def spCup (K : PySem.W.Frag) : Sp := fun vs H Q _ => ∃ (a : Addr) (ns : List Int), vs = [.ref a] ∧ SqL K H a (ns.map V.int) ∧ ns.length ≤ 1000 ∧ ∀ (p : Addr) (H' : Hp), (∀ b o, H b = some o → H' b = some o) → H p = none → H' p = some (.lst [.int (cup0 ns).1, .int (cup0 ns).2]) → Q (.ref p) H'
theorem scCup {sc : Scope} (h : scOk ["script", "cell"] ["script"] sc = true) : FnScope ["script", "cell"] ["script"] sc := sc_of h
theorem cup_body {CX : CXT} {P : Program} {w : World} {K : PySem.W.Frag} {mg : Str → Option Value} {base : Heap} {sc : Scope} {fo : Addr} {cdv : Value} {n : Nat} {p0 p1 p2 p3 p4 p5 p6 p7 p8 p9 p10 p11 q0 q1 q2 q3 q4 q5 q6 q7 q8 q9 q10 q11 q12 q13 q14 q15 q16 q17 q18 q19 q20 q21 q22 : Pos} {A : Around} {outer : List Env} {s : Shared} {H : Hp} {vs : List V} {Q : VK} {E : XK}
    (hs : scOk ["script", "cell"] ["script"] sc = true) (hl : locl sc "script" = true) (hl2 : locl sc "cell" = true) (hg1 : glb sc "abs" = true) (hg2 : glb sc "list" = true) (hg3 : glb sc "int" = true) (m1 : mg "abs" = none) (m2 : mg "list" = none) (m3 : mg "int" = none)
    (hr : Room n (A.deeper (envOfC "_law_cup" sc s.heap.objs.size fo cdv))) (h : spCup K vs H Q E) :
    ∃ t, PSs (cxOf CX P w K mg base ["script", "cell"] "_law_cup" sc fo cdv A outer s H E) [
      .Assign [.Name "cell" p0] (.Call (.Name "abs" p1) [.Subscript (.BinOp (.Call (.Name "list" p2) [.Name "script" p3] [] p4) .Add (.List [.Constant (.int 0) 0 p5] p6) p7) (.Constant (.int 0) 0 p8) p9] [] p10) p11,
      .Return (some (.List [.IfExp (.Compare (.Name "cell" q0) [.GtE] [.BinOp (.Constant (.int 10) 0 q1) .Pow (.Constant (.int 18) 0 q2) q3] q4) (.BinOp (.Name "cell" q5) .FloorDiv (.Constant (.int 251) 0 q6) q7) (.Constant (.int 0) 0 q8) q9,
        .BinOp (.BinOp (.Call (.Name "int" q10) [.BinOp (.BinOp (.Name "cell" q11) .Mult (.Constant (.int 509) 0 q12) q13) .Add (.Constant (.int 7753) 0 q14) q15] [] q16) .Mod (.Constant (.int 99833) 0 q17) q18) .Add (.Constant (.int 367) 0 q19) q20] q21)) q22] t ∧ t { nx := fun _ H' => Q .non H', rt := Q } (L2.start ["script", "cell"] vs) H := by
  obtain ⟨a, ns, rfl, hS, hlen, k⟩ := h
  have S := sc_of hs
  have loc : ∀ {y : Str}, locl sc y = true → sc.names.lookup y = some .local := fun {y} h => by
    unfold locl at h
    split at h
    · assumption
    · cases h
  have gl : ∀ {y : Str}, glb sc y = true → sc.names.lookup y = some .globalImplicit := fun {y} h => by
    unfold Ev.glb at h
    split at h
    · assumption
    · cases h
  let X := cxOf CX P w K mg base ["script", "cell"] "_law_cup" sc fo cdv A outer s H E
  have vS : ∀ {q : Pos}, PE X (.Name "script" q) (tVar 0) := fun {q} => pe_var (i := 0) rfl (.inl (loc hl)) (by decide) (by decide)
  have vC : ∀ {q : Pos}, PE X (.Name "cell" q) (tVar 1) := fun {q} => pe_var (i := 1) rfl (.inl (loc hl2)) (by decide) (by decide)
  have G1 : Gl X "abs" := gl hg1
  have G2 : Gl X "list" := gl hg2
  have G3 : Gl X "int" := gl hg3
  have x1 : PE X (.Call (.Name "list" p2) [.Name "script" p3] [] p4) _ := pe_callTy call_list_of G2 m2 (by decide +kernel) (pa_cons vS pa_nil)
  have x2 : PE X (.List [.Constant (.int 0) 0 p5] p6) _ := pe_lst (pa_cons pe_int pa_nil)
  have x3 : PE X (.BinOp (.Call (.Name "list" p2) [.Name "script" p3] [] p4) .Add (.List [.Constant (.int 0) 0 p5] p6) p7) _ := pe_op (op_B .Add) x1 x2
  have c0 : ∀ {q : Pos} {i : Int}, PE X (.Constant (.int i) 0 q) (tC (.int i)) := fun {q i} => pe_int
  have x4 : PE X (.Subscript (.BinOp (.Call (.Name "list" p2) [.Name "script" p3] [] p4) .Add (.List [.Constant (.int 0) 0 p5] p6) p7) (.Constant (.int 0) 0 p8) p9) _ := pe_ix ix_seq x3 c0 (plainIx_of rfl)
  have x5 : PE X (.Call (.Name "abs" p1) [.Subscript (.BinOp (.Call (.Name "list" p2) [.Name "script" p3] [] p4) .Add (.List [.Constant (.int 0) 0 p5] p6) p7) (.Constant (.int 0) 0 p8) p9] [] p10) _ := pe_callB call_abs G1 m1 (by decide +kernel) (pa_cons x4 pa_nil)
  have s1 : PS X (.Assign [.Name "cell" p0] _ p11) _ := ps_set (i := 1) S.nd rfl (.inl (loc hl2)) x5 rfl (.inl rfl)
  have y1 : PE X (.BinOp (.Constant (.int 10) 0 q1) .Pow (.Constant (.int 18) 0 q2) q3) _ := pe_op (op_B .Pow) c0 c0
  have y2 : PT X (.Compare (.Name "cell" q0) [.GtE] [.BinOp (.Constant (.int 10) 0 q1) .Pow (.Constant (.int 18) 0 q2) q3] q4) _ := pt_cmpR (op_C hr .GtE) vC y1 rfl
  have y3 : PE X (.BinOp (.Name "cell" q5) .FloorDiv (.Constant (.int 251) 0 q6) q7) _ := pe_op (op_B .FloorDiv) vC c0
  have e1 : PE X (.IfExp (.Compare (.Name "cell" q0) [.GtE] [.BinOp (.Constant (.int 10) 0 q1) .Pow (.Constant (.int 18) 0 q2) q3] q4) (.BinOp (.Name "cell" q5) .FloorDiv (.Constant (.int 251) 0 q6) q7) (.Constant (.int 0) 0 q8) q9) _ := pe_ifExp y2 y3 c0
  have z1 : PE X (.BinOp (.Name "cell" q11) .Mult (.Constant (.int 509) 0 q12) q13) _ := pe_op (op_B .Mult) vC c0
  have z2 : PE X (.BinOp (.BinOp (.Name "cell" q11) .Mult (.Constant (.int 509) 0 q12) q13) .Add (.Constant (.int 7753) 0 q14) q15) _ := pe_op (op_B .Add) z1 c0
  have z3 : PE X (.Call (.Name "int" q10) [.BinOp (.BinOp (.Name "cell" q11) .Mult (.Constant (.int 509) 0 q12) q13) .Add (.Constant (.int 7753) 0 q14) q15] [] q16) _ := pe_callTy call_int1 G3 m3 (by decide +kernel) (pa_cons z2 pa_nil)
  have z4 : PE X (.BinOp (.Call (.Name "int" q10) [.BinOp (.BinOp (.Name "cell" q11) .Mult (.Constant (.int 509) 0 q12) q13) .Add (.Constant (.int 7753) 0 q14) q15] [] q16) .Mod (.Constant (.int 99833) 0 q17) q18) _ := pe_op (op_B .Mod) z3 c0
  have e2 : PE X (.BinOp (.BinOp (.Call (.Name "int" q10) [.BinOp (.BinOp (.Name "cell" q11) .Mult (.Constant (.int 509) 0 q12) q13) .Add (.Constant (.int 7753) 0 q14) q15] [] q16) .Mod (.Constant (.int 99833) 0 q17) q18) .Add (.Constant (.int 367) 0 q19) q20) _ := pe_op (op_B .Add) z4 c0
  have ll : PE X (.List [.IfExp (.Compare (.Name "cell" q0) [.GtE] [.BinOp (.Constant (.int 10) 0 q1) .Pow (.Constant (.int 18) 0 q2) q3] q4) (.BinOp (.Name "cell" q5) .FloorDiv (.Constant (.int 251) 0 q6) q7) (.Constant (.int 0) 0 q8) q9, .BinOp (.BinOp (.Call (.Name "int" q10) [.BinOp (.BinOp (.Name "cell" q11) .Mult (.Constant (.int 509) 0 q12) q13) .Add (.Constant (.int 7753) 0 q14) q15] [] q16) .Mod (.Constant (.int 99833) 0 q17) q18) .Add (.Constant (.int 367) 0 q19) q20] q21) _ := pe_lst (pa_cons e1 (pa_cons e2 pa_nil))
  have s2 : PS X (.Return _ q22) _ := ps_ret ll
  refine ⟨_, pss_cons s1 (pss_one s2), ?_⟩
  let z : Int := (ns ++ [0]).headD 0
  refine ⟨V.ref a, rfl, a, ns.map V.int, rfl, .inl hS, fun l nl => ⟨by decide, fun p2 np2 => ?_⟩⟩
  have nlp : l ≠ p2 := fun e => by
    rw [← e, upd_same] at np2
    cases np2
  refine .inr (.inl ⟨l, p2, ns.map V.int, [.int 0], rfl, rfl, by rw [upd_ne nlp, upd_same], upd_same, ?_, fun p3 np3 => ?_⟩)
  · have := big_le
    have hb : big = 16777216 := rfl
    simp only [List.length_map, List.length_cons, List.length_nil]
    omega
  refine .inl ⟨p3, ns.map V.int ++ [.int 0], 0, .int z, rfl, rfl, SqL.of upd_same, ?_, z, rfl, ?_⟩
  · show atI (ns.map V.int ++ [V.int 0]) 0 = some (V.int ((ns ++ [0]).headD 0))
    cases ns with
    | nil => rfl
    | cons x xs =>
      simp only [List.map_cons, List.cons_append, List.headD_cons, atI, ixN, List.length_cons]
      have : ((0 : Int) < ((xs.map V.int ++ [V.int 0]).length + 1 : Nat)) := by omega
      simp
      rw [if_pos (by omega)]
      rfl
  have hcell : (if z < 0 then -z else z) = cellOf ns := rfl
  rw [hcell]
  -- the heap has grown
  have g1 : ∀ b o, H b = some o → upd (upd (upd H l (.lst (ns.map V.int))) p2 (.lst [.int 0])) p3 (.lst (ns.map V.int ++ [.int 0])) b = some o := fun b o e => by
    have k1 : upd H l (.lst (ns.map V.int)) b = some o := by rw [upd_ne (ne_of_none e nl)]; exact e
    have k2 : upd (upd H l (.lst (ns.map V.int))) p2 (.lst [.int 0]) b = some o := by rw [upd_ne (ne_of_none k1 np2)]; exact k1
    rw [upd_ne (ne_of_none k2 np3)]
    exact k2
  generalize upd (upd (upd H l (.lst (ns.map V.int))) p2 (.lst [.int 0])) p3 (.lst (ns.map V.int ++ [.int 0])) = H3 at g1
  -- the returned list
  have fin : ∀ (x : Int), x = (cup0 ns).1 → tCons (tOp (rB K Operator.Add) (tOp (rB K Operator.Mod) (tCB (fun xs H Q => (∃ i, xs = [V.int i] ∧ Q (V.int i) H) ∨ ∃ k, xs = [V.bl k] ∧ Q (V.int (if k = true then 1 else 0)) H) (tCons (tOp (rB K Operator.Add) (tOp (rB K Operator.Mult) (tVar 1) (tC (V.int 509))) (tC (V.int 7753))) tNil)) (tC (V.int 99833))) (tC (V.int 367))) tNil [some (V.ref a), some (V.int (cellOf ns))] H3 (fun vs H1 => (V.int x :: vs).length ≤ sizeLine ∧ ∀ p, H1 p = none → Q (.ref p) (upd H1 p (.lst (V.int x :: vs)))) := fun x ex => by
    subst ex
    refine ⟨.int (cellOf ns), rfl, .inl ⟨_, _, rfl, rfl, .inr ⟨by decide, by decide⟩, .inl ⟨_, _, rfl, rfl, .inl ⟨_, rfl, _, _, rfl, rfl, (by show (0 : Int) < 99833; decide), .inl ⟨_, _, rfl, rfl, ?_⟩⟩⟩⟩⟩
    refine ⟨?_, fun p np => k p _ (fun b o e => ?_) ?_ upd_same⟩
    · have := big_le
      have hb : big = 16777216 := rfl
      simp only [List.length_cons, List.length_nil]
      omega
    · have k1 := g1 b o e
      rw [upd_ne (ne_of_none k1 np)]
      exact k1
    · cases q : H p with
      | none => rfl
      | some o =>
        have k1 := g1 p o q
        rw [np] at k1
        cases k1
  have hz : (10 : Int) ^ (18 : Int).toNat = 10 ^ 18 := rfl
  by_cases hc : (10 : Int) ^ 18 ≤ cellOf ns
  · refine ⟨.int (cellOf ns), rfl, 10, 18, rfl, rfl, ⟨by decide, by decide, by decide⟩, cellOf ns, _, rfl, rfl, true, by show V.bl (decide ((10 : Int) ^ 18 ≤ cellOf ns)) = V.bl true; rw [decide_eq_true hc], ?_⟩
    refine iteT ?_
    refine ⟨.int (cellOf ns), rfl, _, _, rfl, rfl, ⟨by decide, by decide⟩, ?_⟩
    exact fin _ (by unfold cup0; rw [if_pos hc])
  · refine ⟨.int (cellOf ns), rfl, 10, 18, rfl, rfl, ⟨by decide, by decide, by decide⟩, cellOf ns, _, rfl, rfl, false, by show V.bl (decide ((10 : Int) ^ 18 ≤ cellOf ns)) = V.bl false; rw [decide_eq_false hc], ?_⟩
    refine iteF ?_
    exact fin _ (by unfold cup0; rw [if_neg hc])
end Ev

/-! The def law: its first statement by hand, the rest by the evaluator. -/
namespace Ev
open PySem PySem.Spec PyProof.Rows L2 LamX
def lawEnv (nn : Nat) : En := none :: some (false, .cup) :: List.replicate (nn - 2) none
def spLaw (K : PySem.W.Frag) (f : Fx) : Sp := fun vs H Q _ => ∃ (a : Addr) (ns : List Int), vs = [.ref a] ∧ SqL K H a (ns.map V.int) ∧ ns.length ≤ 63 ∧ (∀ q ∈ f.T, H q.1 = some (.tbl #[])) ∧ ∀ H', Q (.bl true) H'
section
variable {S : Sys} {p : PC} {f : Fx} {wd : Words} {nw : Str} {pr : List FD} {n : Nat}
theorem law_ok (h : SysOk S p f wd nw pr) {st : Stmt} {fo fc : Addr} {cdv : Value} {fdc : FuncData} {N : List Str} {sS : List Sx} {rest : List Stmt} {p0 p1 p2 p3 p4 : Pos} (F : DF S.K "law" st fo cdv) (hst : defBody st = .Assign [.Name "cup" p0] (.Call (.Name "_law_cup" p1) [.Name "script" p2] [] p3) p4 :: rest)
    (hsc : scOk N ["script"] (defScope st) = true) (h0 : N[0]? = some ("script" : Str)) (h1 : N[1]? = some ("cup" : Str)) (hl : locl (defScope st) "script" = true) (hl2 : locl (defScope st) "cup" = true) (hg : glb (defScope st) "_law_cup" = true) (hm : mSs p ⟨N, defScope st, false, false⟩ sS rest = true)
    (mc : S.mg "_law_cup" = some (.ref fc)) (kc : PySem.W.keepIn S.K (.ref fc) = true) (bc : Binds S.K fdc ["script"] []) (Fc : FnOk S.P S.w S.K S.mg S.base (L2N.CX S.P S.w) 1 fc fdc ["script"] (spCup S.K))
    (hplain : ∀ ns : List Int, ns.length ≤ 63 → ∃ u', evSs wd nw (run wd nw pr n) sS (lawEnv N.length) (cup0 ns) = .ret (.bl true) u') :
    ∃ (oc : Value) (od : Option Addr) (kV doc pm : Value) (an : Option Addr) (ct : Value) (osl : Array (Option Value)), S.K.lookup fo = some ⟨oc, od, .func (PySem.W.fnOf "law" "law" (defArgs st) (defBody st) (defScope st) .none kV doc pm an cdv ct), osl⟩ ∧
      FnOk S.P S.w S.K S.mg S.base (L2N.CX S.P S.w) (3 * n + 3) fo (PySem.W.fnOf "law" "law" (defArgs st) (defBody st) (defScope st) .none kV doc pm an cdv ct) ["script"] (spLaw S.K f) := by
  obtain ⟨oc, od, kV, doc, pm, an, ct, osl, lk⟩ := F.l
  refine ⟨oc, od, kV, doc, pm, an, ct, osl, lk, ?_⟩
  have Sc := sc_of hsc
  have loc : ∀ {y : Str}, locl (defScope st) y = true → (defScope st).names.lookup y = some .local := fun {y} h => by
    unfold locl at h
    split at h
    · assumption
    · cases h
  have gl : ∀ {y : Str}, glb (defScope st) y = true → (defScope st).names.lookup y = some .globalImplicit := fun {y} h => by
    unfold Ev.glb at h
    split at h
    · assumption
    · cases h
  refine fn_of (k := 3 * n + 2) lk F.c Sc (fun vs H Q E q => ?_) fun A outer s H vs Q E hr q => ?_
  · obtain ⟨a, ns, rfl, _⟩ := q
    rfl
  · obtain ⟨a, ns, rfl, hS, hlen, hT, k⟩ := q
    let W : WX := fun cls d _ H => E cls d H
    let X := cxOf (L2N.CX S.P S.w) S.P S.w S.K S.mg S.base N "law" (defScope st) fo cdv A outer s H E
    have tk : L2N.Takes X W := L2N.takes_of rfl rfl rfl rfl
    have so : SOk p f wd nw pr n X ⟨N, defScope st, false, false⟩ := h.sok (n := n) (defs_ok h n) (E := E) (outer := outer) (s := s) (H := H) Sc hr (fun z => by cases z)
    have vS : PE X (.Name "script" p2) (tVar 0) := pe_var (i := 0) h0 (.inl (loc hl)) (by decide) (by decide)
    have hG : Gl X "_law_cup" := gl hg
    have x1 : PE X (.Call (.Name "_law_cup" p1) [.Name "script" p2] [] p3) _ := pe_callS Fc (hr.mono (by omega)) hG mc kc bc (fun σ => L2N.passAt tk σ) (pa_cons vS pa_nil)
    have s1 : PS X (.Assign [.Name "cup" p0] (.Call (.Name "_law_cup" p1) [.Name "script" p2] [] p3) p4) _ := ps_set (i := 1) Sc.nd h1 (.inl (loc hl2)) x1 rfl (.inl rfl)
    rw [hst]
    -- the rest, for any cup
    let tr : TS := fun D σ H' => ∃ C u, tSs (gx X f) C wd nw (run wd nw pr n) (fun _ => False) (fun _ => False) H' W sS D σ H' ∧ u = ()
    have s2 : PSs X rest tr := ⟨fun pins s' σ H' D I ⟨C, _, q, _⟩ => (ss_ok sS X _ C W rest so tk hm (fun _ => False) (fun _ => False) H' (fun _ z => z.elim)).run pins s' σ H' D I q⟩
    refine ⟨_, pss_cons s1 s2, ?_⟩
    have g0 : (L2.start N [V.ref a])[0]? = some (some (V.ref a)) := rfl
    refine ⟨V.ref a, g0, a, ns, rfl, hS, by omega, fun q H' kp nq hq => ?_⟩
    obtain ⟨u', hu⟩ := hplain ns hlen
    have hN2 : 1 < N.length := (List.getElem?_eq_some_iff.mp h1).1
    refine ⟨q, (), ⟨lawEnv N.length, cup0 ns, ?_, ⟨hq, fun t ht => ?_⟩, ?_⟩, rfl⟩
    · have cases1 : ∀ {i : Nat} {b : Bool} {d : D}, (lawEnv N.length)[i]? = some (some (b, d)) → i = 1 ∧ b = false ∧ d = .cup := fun {i b d} e => by
        unfold lawEnv at e
        match i, e with
        | 0, e => cases e
        | 1, e => cases e; exact ⟨rfl, rfl, rfl⟩
        | i + 2, e =>
          rw [List.getElem?_cons_succ, List.getElem?_cons_succ, List.getElem?_replicate] at e
          split at e <;> cases e
      refine ⟨fun _ => False, fun _ => 0, ⟨fun _ _ k _ _ _ => k, fun _ vs k => ⟨vs, k⟩⟩, fun a ha => ha.elim, fun i d e => ?_, fun i d e => ?_, fun i j d d' e _ _ => ?_⟩
      · obtain ⟨rfl, _, rfl⟩ := cases1 e
        refine ⟨.ref q, ?_, rfl⟩
        refine List.getElem?_set_self ?_
        unfold L2.start
        simp
        omega
      · have := (cases1 e).2.1
        cases this
      · have := (cases1 e).2.1
        cases this
    · exact TabS.nil (kp _ _ (hT t ht))
    · rw [hu]
      intro v H'' xt w'' rv
      have ev : v = .bl true := rv
      subst ev
      exact k H''
end
/-- the end of a law's proof -/
theorem law_at {l : PySem.W.OpenLaw} {w : World} {K : PySem.W.Frag} {mg : Str → Option Value} {fa fo fc : Addr} {h : Heap} {p : PC} {f : Fx} {wd : Words} {nw : Str} {pr : List FD} {n : Nat} {cs : List (Addr × Addr)} {st stc : Stmt} {cdv cdc : Value} {N : List Str} {sS : List Sx} {rest : List Stmt} {p0 p1 p2 p3 p4 : Pos}
    {a0 a1 a2 a3 a4 a5 a6 a7 a8 a9 a10 a11 q0 q1 q2 q3 q4 q5 q6 q7 q8 q9 q10 q11 q12 q13 q14 q15 q16 q17 q18 q19 q20 q21 q22 : Pos}
    (KX : K.In h) (G : h.Ns mainGlobals mg) (hfa : mg "law" = some (.ref fa)) (hT : ∀ q ∈ cs, h.get? q.2 = some { cls := .none, data := .fields #[] }) (nT : ∀ q ∈ cs, K.lookup q.2 = none) (hC : ∀ q ∈ cs, PySem.W.codeHdIn K q.1 q.2 = true) (hfT : ∀ q ∈ f.T, ∃ c, (c, q.1) ∈ cs)
    (hS : ∀ base : Heap, (∀ q ∈ cs, TabB base mg q.1 q.2) → SysOk ⟨l.prog, w, K, mg, base⟩ p f wd nw pr) (F : DF K "law" st fo cdv) (hbl : BindF "law" st ["script"]) (hst : defBody st = .Assign [.Name "cup" p0] (.Call (.Name "_law_cup" p1) [.Name "script" p2] [] p3) p4 :: rest)
    (hsc : scOk N ["script"] (defScope st) = true) (h0 : N[0]? = some ("script" : Str)) (h1 : N[1]? = some ("cup" : Str)) (hl : locl (defScope st) "script" = true) (hl2 : locl (defScope st) "cup" = true) (hg : glb (defScope st) "_law_cup" = true) (hm : mSs p ⟨N, defScope st, false, false⟩ sS rest = true)
    (Fc : DF K "_law_cup" stc fc cdc) (hbc : BindF "_law_cup" stc ["script"]) (hsc2 : scOk ["script", "cell"] ["script"] (defScope stc) = true) (c1 : locl (defScope stc) "script" = true) (c2 : locl (defScope stc) "cell" = true) (g1 : glb (defScope stc) "abs" = true) (g2 : glb (defScope stc) "list" = true) (g3 : glb (defScope stc) "int" = true)
    (m1 : mg "abs" = none) (m2 : mg "list" = none) (m3 : mg "int" = none)
    (hcb : defBody stc = [
      .Assign [.Name "cell" a0] (.Call (.Name "abs" a1) [.Subscript (.BinOp (.Call (.Name "list" a2) [.Name "script" a3] [] a4) .Add (.List [.Constant (.int 0) 0 a5] a6) a7) (.Constant (.int 0) 0 a8) a9] [] a10) a11,
      .Return (some (.List [.IfExp (.Compare (.Name "cell" q0) [.GtE] [.BinOp (.Constant (.int 10) 0 q1) .Pow (.Constant (.int 18) 0 q2) q3] q4) (.BinOp (.Name "cell" q5) .FloorDiv (.Constant (.int 251) 0 q6) q7) (.Constant (.int 0) 0 q8) q9,
        .BinOp (.BinOp (.Call (.Name "int" q10) [.BinOp (.BinOp (.Name "cell" q11) .Mult (.Constant (.int 509) 0 q12) q13) .Add (.Constant (.int 7753) 0 q14) q15] [] q16) .Mod (.Constant (.int 99833) 0 q17) q18) .Add (.Constant (.int 367) 0 q19) q20] q21)) q22])
    (hplain : ∀ ns : List Int, ns.length ≤ 63 → ∃ u', evSs wd nw (run wd nw pr n) sS (lawEnv N.length) (cup0 ns) = .ret (.bl true) u') :
    LawAtS l w K (L2N.CX l.prog w) (3 * n + 3) 63 "script" mg fa h := by
  have e := hfa.symm.trans (PySem.W.mg_of KX G F.a)
  cases e
  obtain ⟨oc, od, kV, doc, pm, an, ct, osl, lk⟩ := F.l
  obtain ⟨oc', od', kV', doc', pm', an', ct', osl', lk'⟩ := Fc.l
  have hcH : ∀ q ∈ cs, PySem.W.CodeHd h q.1 q.2 := fun q hq => PySem.W.codeHd_of_K KX (hC q hq)
  refine ⟨PySem.W.fnOf "law" "law" (defArgs st) (defBody st) (defScope st) .none kV doc pm an cdv ct, cs, spLaw K f, hT, nT, hcH, fun s u => .of_eq (hbl kV doc pm an cdv ct [u] rfl), fun H a ns hlen _ hHT hSq => ⟨a, ns, rfl, hSq, hlen, fun q hq => ?_, fun _ => rfl⟩, fun base KB GB TB => ?_⟩
  · obtain ⟨c, hc⟩ := hfT q hq
    exact hHT _ hc
  · have hcup : FnOk l.prog w K mg base (L2N.CX l.prog w) 1 fc (PySem.W.fnOf "_law_cup" "_law_cup" (defArgs stc) (defBody stc) (defScope stc) .none kV' doc' pm' an' cdc ct') ["script"] (spCup K) := by
      refine fn_of (k := 0) lk' Fc.c (sc_of hsc2) (fun vs H Q E q => ?_) fun A outer s H vs Q E hr q => ?_
      · obtain ⟨a, ns, rfl, _⟩ := q
        rfl
      · rw [hcb]
        exact cup_body hsc2 c1 c2 g1 g2 g3 m1 m2 m3 hr q
    obtain ⟨oc2, od2, kV2, doc2, pm2, an2, ct2, osl2, lk2, R⟩ := law_ok (S := ⟨l.prog, w, K, mg, base⟩) (n := n) (hS base TB) F hst hsc h0 h1 hl hl2 hg hm (PySem.W.mg_of KX G Fc.a) Fc.k (.all (hbc kV' doc' pm' an' cdc ct')) hcup hplain
    have e2 := lk.symm.trans lk2
    cases e2
    exact R
end Ev

namespace K00
def low (t b : Int) : Int × Int := if 0 < b / (Int.gcd t b : Int) then (t / (Int.gcd t b : Int), b / (Int.gcd t b : Int)) else (-(t / (Int.gcd t b : Int)), -(b / (Int.gcd t b : Int)))
def Fr (p : Int × Int) : Prop := 0 < p.2 ∧ Int.gcd p.1 p.2 = 1
theorem low_fr {t b : Int} (hb : b ≠ 0) : Fr (low t b) ∧ (low t b).1 * b = t * (low t b).2 ∧ (low t b).1.natAbs ≤ t.natAbs ∧ (low t b).2.natAbs ≤ b.natAbs := by
  have hg : 0 < Int.gcd t b := Nat.pos_of_ne_zero fun e => hb (Int.gcd_eq_zero_iff.mp e).2
  obtain ⟨x, hx⟩ := Int.gcd_dvd_left t b
  obtain ⟨y, hy⟩ := Int.gcd_dvd_right t b
  have hg' : ((Int.gcd t b : Nat) : Int) ≠ 0 := by omega
  have ex : t / (Int.gcd t b : Int) = x := by
    have : t / (Int.gcd t b : Int) = ((Int.gcd t b : Int) * x) / (Int.gcd t b : Int) := by rw [← hx]
    rw [this, Int.mul_ediv_cancel_left _ hg']
  have ey : b / (Int.gcd t b : Int) = y := by
    have : b / (Int.gcd t b : Int) = ((Int.gcd t b : Int) * y) / (Int.gcd t b : Int) := by rw [← hy]
    rw [this, Int.mul_ediv_cancel_left _ hg']
  have co : Int.gcd x y = 1 := by
    have h1 : Int.gcd t b = Int.gcd t b * Int.gcd x y := by
      have h2 : Int.gcd ((Int.gcd t b : Int) * x) ((Int.gcd t b : Int) * y) = (Int.gcd t b : Int).natAbs * Int.gcd x y := Int.gcd_mul_left ..
      rw [← hx, ← hy] at h2
      simpa using h2
    have h3 : Int.gcd t b * 1 = Int.gcd t b * Int.gcd x y := by omega
    exact (Nat.eq_of_mul_eq_mul_left hg h3).symm
  have y0 : y ≠ 0 := fun e => hb (by rw [hy, e, Int.mul_zero])
  have nx : x.natAbs ≤ t.natAbs := by
    have : t.natAbs = Int.gcd t b * x.natAbs := by
      have h := congrArg Int.natAbs hx
      rw [Int.natAbs_mul] at h
      simpa using h
    rw [this]
    exact Nat.le_mul_of_pos_left _ hg
  have ny : y.natAbs ≤ b.natAbs := by
    have : b.natAbs = Int.gcd t b * y.natAbs := by
      have h := congrArg Int.natAbs hy
      rw [Int.natAbs_mul] at h
      simpa using h
    rw [this]
    exact Nat.le_mul_of_pos_left _ hg
  have cr : x * b = t * y := by
    generalize (Int.gcd t b : Int) = g at hx hy
    rw [hx, hy, Int.mul_assoc, Int.mul_left_comm]
  unfold low
  rw [ex, ey]
  by_cases h : 0 < y
  · rw [if_pos h]
    exact ⟨⟨h, co⟩, cr, nx, ny⟩
  · rw [if_neg h]
    refine ⟨⟨by show 0 < -y; omega, ?_⟩, ?_, ?_, ?_⟩
    · show Int.gcd (-x) (-y) = 1
      rw [Int.neg_gcd, Int.gcd_neg]
      exact co
    · show -x * b = t * -y
      rw [Int.neg_mul, Int.mul_neg, cr]
    · show (-x).natAbs ≤ _
      rw [Int.natAbs_neg]; exact nx
    · show (-y).natAbs ≤ _
      rw [Int.natAbs_neg]; exact ny
theorem co_dvd {a b d : Int} (h1 : Int.gcd a b = 1) (h : b ∣ a * d) : b ∣ d := by
  have h2 : b.natAbs ∣ a.natAbs * d.natAbs := by
    rw [← Int.natAbs_mul]
    exact Int.natAbs_dvd_natAbs.mpr h
  have h3 : Nat.Coprime b.natAbs a.natAbs := Nat.Coprime.symm h1
  exact Int.natAbs_dvd_natAbs.mp (h3.dvd_of_dvd_mul_left h2)
theorem fr_uniq {p q : Int × Int} (hp : Fr p) (hq : Fr q) (h : p.1 * q.2 = q.1 * p.2) : p = q := by
  obtain ⟨a, b⟩ := p
  obtain ⟨c, d⟩ := q
  obtain ⟨hb, h1⟩ := hp
  obtain ⟨hd, h2⟩ := hq
  simp only at *
  have e1 : b ∣ d := by
    have : b ∣ a * d := ⟨c, by rw [h, Int.mul_comm]⟩
    exact co_dvd h1 this
  have e2 : d ∣ b := by
    have : d ∣ c * b := ⟨a, by rw [← h, Int.mul_comm]⟩
    exact co_dvd h2 this
  have e3 : b = d := Int.le_antisymm (Int.le_of_dvd hd e1) (Int.le_of_dvd hb e2)
  subst e3
  have e4 : a = c := Int.eq_of_mul_eq_mul_right (by omega) h
  rw [e4]
end K00

open PySem
namespace K00
open Ev
-- classes: 0 FigureError 1 InvalidPortion 2 NotFound
/-! 0: is_whole(value, low, high); slots 0 value 1 low 2 high; statement 6 -/
def n_d_is_whole : List Str := [PySem.Str.ofString "value", PySem.Str.ofString "low", PySem.Str.ofString "high"]
def d_is_whole : FD := ⟨3, 3, [(.ret (.bop .And [(.isi (.v 0) .int), (.not (.isi (.v 0) .bool)), (.ch .LtE .LtE (.v 1) (.v 0) (.v 2))]))]⟩
/-! 1: is_tuple_of(value, low, high); slots 0 value 1 low 2 high; statement 7 -/
def n_d_is_tuple_of : List Str := [PySem.Str.ofString "value", PySem.Str.ofString "low", PySem.Str.ofString "high"]
def d_is_tuple_of : FD := ⟨3, 3, [(.ret (.bop .And [(.isi (.v 0) .tuple), (.ch .LtE .LtE (.v 1) (.bi .len [(.v 0)]) (.v 2))]))]⟩
/-! 2: is_fraction(value); slots 0 value 1 part; statement 10 -/
def n_d_is_fraction : List Str := [PySem.Str.ofString "value", PySem.Str.ofString "part"]
def d_is_fraction : FD := ⟨1, 2, [(.ite (.not (.call 1 [(.v 0), (.c (.int 2)), (.c (.int 2))])) [(.ret (.c (.bl false)))] []),
    (.ite (.not (.bi .all [(.lc [1] (.n 1) (.v 0) [] (.bop .And [(.isi (.v 1) .int), (.not (.isi (.v 1) .bool))]))])) [(.ret (.c (.bl false)))] []),
    (.ret (.bop .And [(.cmp .GtE (.ix (.v 0) (.c (.int 1))) (.c (.int 1))), (.cmp .Eq (.bi .gcd [(.ix (.v 0) (.c (.int 0))), (.ix (.v 0) (.c (.int 1)))]) (.c (.int 1)))]))]⟩
/-! 3: is_portion(value); slots 0 value; statement 11 -/
def n_d_is_portion : List Str := [PySem.Str.ofString "value"]
def d_is_portion : FD := ⟨1, 1, [(.ret (.bop .And [(.call 2 [(.v 0)]), (.call 0 [(.ix (.v 0) (.c (.int 0))), (.neg (.g (PySem.Str.ofString "FAR") (.int 1000000))), (.g (PySem.Str.ofString "FAR") (.int 1000000))]), (.cmp .LtE (.ix (.v 0) (.c (.int 1))) (.g (PySem.Str.ofString "FAR") (.int 1000000)))]))]⟩
/-! 4: need_fraction(value); slots 0 value; statement 12 -/
def n_d_need_fraction : List Str := [PySem.Str.ofString "value"]
def d_need_fraction : FD := ⟨1, 1, [(.ite (.not (.call 2 [(.v 0)])) [(.raise 1)] [])]⟩
/-! 5: lowest(top, bottom); slots 0 top 1 bottom 2 shared; statement 13 -/
def n_d_lowest : List Str := [PySem.Str.ofString "top", PySem.Str.ofString "bottom", PySem.Str.ofString "shared"]
def d_lowest : FD := ⟨2, 3, [(.set 2 (.bi .gcd [(.v 0), (.v 1)])),
    (.par [0, 1] [(.bin .FloorDiv (.v 0) (.v 2)), (.bin .FloorDiv (.v 1) (.v 2))]),
    (.ret (.ite (.cmp .Gt (.v 1) (.c (.int 0))) (.tup [(.v 0), (.v 1)]) (.tup [(.neg (.v 0)), (.neg (.v 1))])))]⟩
/-! 6: plus(one, other); slots 0 one 1 other; statement 14 -/
def n_d_plus : List Str := [PySem.Str.ofString "one", PySem.Str.ofString "other"]
def d_plus : FD := ⟨2, 2, [(.ret (.call 5 [(.bin .Add (.bin .Mult (.ix (.v 0) (.c (.int 0))) (.ix (.v 1) (.c (.int 1)))) (.bin .Mult (.ix (.v 1) (.c (.int 0))) (.ix (.v 0) (.c (.int 1))))), (.bin .Mult (.ix (.v 0) (.c (.int 1))) (.ix (.v 1) (.c (.int 1))))]))]⟩
/-! 7: times(one, other); slots 0 one 1 other; statement 15 -/
def n_d_times : List Str := [PySem.Str.ofString "one", PySem.Str.ofString "other"]
def d_times : FD := ⟨2, 2, [(.ret (.call 5 [(.bin .Mult (.ix (.v 0) (.c (.int 0))) (.ix (.v 1) (.c (.int 0)))), (.bin .Mult (.ix (.v 0) (.c (.int 1))) (.ix (.v 1) (.c (.int 1))))]))]⟩
/-! 8: over(one, other); slots 0 one 1 other; statement 16 -/
def n_d_over : List Str := [PySem.Str.ofString "one", PySem.Str.ofString "other"]
def d_over : FD := ⟨2, 2, [(.ret (.call 5 [(.bin .Mult (.ix (.v 0) (.c (.int 0))) (.ix (.v 1) (.c (.int 1)))), (.bin .Mult (.ix (.v 0) (.c (.int 1))) (.ix (.v 1) (.c (.int 0))))]))]⟩
/-! 9: fraction_sum(one, other); slots 0 one 1 other; statement 17 -/
def n_d_fraction_sum : List Str := [PySem.Str.ofString "one", PySem.Str.ofString "other"]
def d_fraction_sum : FD := ⟨2, 2, [(.exp (.call 4 [(.v 0)])),
    (.exp (.call 4 [(.v 1)])),
    (.ret (.call 6 [(.v 0), (.v 1)]))]⟩
/-! 10: fraction_product(one, other); slots 0 one 1 other; statement 18 -/
def n_d_fraction_product : List Str := [PySem.Str.ofString "one", PySem.Str.ofString "other"]
def d_fraction_product : FD := ⟨2, 2, [(.exp (.call 4 [(.v 0)])),
    (.exp (.call 4 [(.v 1)])),
    (.ret (.call 7 [(.v 0), (.v 1)]))]⟩
/-! 11: fraction_by(one, other); slots 0 one 1 other; statement 19 -/
def n_d_fraction_by : List Str := [PySem.Str.ofString "one", PySem.Str.ofString "other"]
def d_fraction_by : FD := ⟨2, 2, [(.exp (.call 4 [(.v 0)])),
    (.exp (.call 4 [(.v 1)])),
    (.ite (.cmp .Eq (.ix (.v 1) (.c (.int 0))) (.c (.int 0))) [(.raise 2)] []),
    (.ret (.call 8 [(.v 0), (.v 1)]))]⟩
/-! 12: _law_roll(cup, many); slots 0 cup 1 many 2 found; statement 22 -/
def n_d_law_roll : List Str := [PySem.Str.ofString "cup", PySem.Str.ofString "many", PySem.Str.ofString "found"]
def d_law_roll : FD := ⟨2, 3, [(.ite (.cmp .Gt (.ix (.v 0) (.c (.int 0))) (.c (.int 0))) [(.set 2 (.bin .Mod (.bi .int [(.ix (.v 0) (.c (.int 0)))]) (.v 1))),
    (.sub 0 (.c (.int 0)) (.bin .FloorDiv (.ix (.v 0) (.c (.int 0))) (.v 1))),
    (.ret (.v 2))] []),
    (.sub 0 (.c (.int 1)) (.bin .Mod (.bi .int [(.bin .Add (.bin .Mult (.ix (.v 0) (.c (.int 1))) (.c (.int 137))) (.c (.int 2441)))]) (.c (.int 99833)))),
    (.ret (.bin .Mod (.bi .int [(.bin .FloorDiv (.ix (.v 0) (.c (.int 1))) (.c (.int 47)))]) (.v 1)))]⟩
/-! 13: _law_some(cup, things); slots 0 cup 1 things; statement 23 -/
def n_d_law_some : List Str := [PySem.Str.ofString "cup", PySem.Str.ofString "things"]
def d_law_some : FD := ⟨2, 2, [(.ret (.ix (.v 1) (.call 12 [(.v 0), (.bi .len [(.v 1)])])))]⟩
/-! 14: _law_sort(value); slots 0 value; statement 24 -/
def n_d_law_sort : List Str := [PySem.Str.ofString "value"]
def d_law_sort : FD := ⟨1, 1, [(.ite (.bop .Or [(.cmp .Is (.v 0) (.c .non)), (.isi (.v 0) .bool)]) [(.ret (.ite (.cmp .Is (.v 0) (.c .non)) (.c (.int 0)) (.c (.int 1))))] []),
    (.ite (.bop .Or [(.isi (.v 0) .int), (.isi (.v 0) .str)]) [(.ret (.ite (.isi (.v 0) .int) (.c (.int 2)) (.c (.int 3))))] []),
    (.ret (.ite (.isi (.v 0) .tuple) (.c (.int 4)) (.ite (.isi (.v 0) .list) (.c (.int 5)) (.c (.int 6)))))]⟩
/-! 15: _law_like(one, other); slots 0 one 1 other 2 sort 3 first 4 second; statement 25 -/
def n_d_law_like : List Str := [PySem.Str.ofString "one", PySem.Str.ofString "other", PySem.Str.ofString "sort", PySem.Str.ofString "first", PySem.Str.ofString "second"]
def d_law_like : FD := ⟨2, 5, [(.set 2 (.call 14 [(.v 1)])),
    (.ite (.bop .Or [(.cmp .NotEq (.call 14 [(.v 0)]) (.v 2)), (.cmp .Eq (.v 2) (.c (.int 6)))]) [(.ret (.c (.bl false)))] []),
    (.ite (.cmp .In (.v 2) (.tup [(.c (.int 4)), (.c (.int 5))])) [(.ret (.bop .And [(.cmp .Eq (.bi .len [(.v 0)]) (.bi .len [(.v 1)])), (.cmp .Eq (.lc [3, 4] (.t [(.n 3), (.n 4)]) (.zip (.v 0) (.v 1)) [(.not (.call 15 [(.v 3), (.v 4)]))] (.c (.int 1))) (.lst []))]))] []),
    (.ret (.cmp .Eq (.v 0) (.v 1)))]⟩
/-! 16: _law_divisor(one, other); slots 0 one 1 other 2 turn; statement 26 -/
def n_d_law_divisor : List Str := [PySem.Str.ofString "one", PySem.Str.ofString "other", PySem.Str.ofString "turn"]
def d_law_divisor : FD := ⟨2, 3, [(.for_ (.n 2) (.rng (.c (.int 4000))) [(.ite (.cmp .Eq (.v 1) (.c (.int 0))) [(.ret (.v 0))] []),
    (.par [0, 1] [(.v 1), (.bin .Mod (.v 0) (.v 1))])]),
    (.ret (.v 0))]⟩
/-! 17: _law_plain(top, bottom); slots 0 top 1 bottom 2 shared; statement 27 -/
def n_d_law_plain : List Str := [PySem.Str.ofString "top", PySem.Str.ofString "bottom", PySem.Str.ofString "shared"]
def d_law_plain : FD := ⟨2, 3, [(.set 2 (.call 16 [(.bi .abs [(.v 0)]), (.bi .abs [(.v 1)])])),
    (.par [0, 1] [(.bin .FloorDiv (.v 0) (.v 2)), (.bin .FloorDiv (.v 1) (.v 2))]),
    (.ret (.ite (.cmp .Gt (.v 1) (.c (.int 0))) (.tup [(.v 0), (.v 1)]) (.tup [(.neg (.v 0)), (.neg (.v 1))])))]⟩
/-! 18: _law_fraction(cup); slots 0 cup 1 great 2 top 3 bottom; statement 28 -/
def n_d_law_fraction : List Str := [PySem.Str.ofString "cup", PySem.Str.ofString "great", PySem.Str.ofString "top", PySem.Str.ofString "bottom"]
def d_law_fraction : FD := ⟨1, 4, [(.set 1 (.call 13 [(.v 0), (.lst [(.c (.int 1)), (.c (.int 3)), (.bin .Pow (.c (.int 10)) (.c (.int 6))), (.bin .Pow (.c (.int 10)) (.c (.int 40)))])])),
    (.par [2, 3] [(.bin .Add (.call 13 [(.v 0), (.lst [(.c (.int 0)), (.c (.int 1)), (.c (.int 2)), (.c (.int 5)), (.v 1)])]) (.call 12 [(.v 0), (.c (.int 4))])), (.bin .Add (.c (.int 1)) (.call 13 [(.v 0), (.lst [(.c (.int 0)), (.c (.int 1)), (.c (.int 2)), (.c (.int 5)), (.v 1)])]))]),
    (.ret (.call 17 [(.ite (.cmp .Eq (.call 12 [(.v 0), (.c (.int 2))]) (.c (.int 0))) (.v 2) (.neg (.v 2))), (.v 3)]))]⟩
/-! 19: _law_two_right(cup); slots 0 cup 1 one 2 other 3 a 4 b 5 c 6 d 7 near 8 told; statement 30 -/
def n_d_law_two_right : List Str := [PySem.Str.ofString "cup", PySem.Str.ofString "one", PySem.Str.ofString "other", PySem.Str.ofString "a", PySem.Str.ofString "b", PySem.Str.ofString "c", PySem.Str.ofString "d", PySem.Str.ofString "near", PySem.Str.ofString "told"]
def d_law_two_right : FD := ⟨1, 9, [(.asg [(.n 1), (.n 2)] (.tup [(.call 18 [(.v 0)]), (.call 18 [(.v 0)])])),
    (.asg [(.n 3), (.n 4)] (.v 1)),
    (.asg [(.n 5), (.n 6)] (.v 2)),
    (.set 7 (.bop .And [(.ch .LtE .LtE (.neg (.bin .Pow (.c (.int 10)) (.c (.int 6)))) (.v 3) (.bin .Pow (.c (.int 10)) (.c (.int 6)))), (.cmp .LtE (.v 4) (.bin .Pow (.c (.int 10)) (.c (.int 6))))])),
    (.set 8 (.lst [(.call 2 [(.v 1)]), (.call 3 [(.v 1)]), (.call 9 [(.v 1), (.v 2)]), (.call 10 [(.v 1), (.v 2)]), (.call 9 [(.v 1), (.tup [(.neg (.v 3)), (.v 4)])])])),
    (.ite (.not (.call 15 [(.v 8), (.lst [(.c (.bl true)), (.v 7), (.call 17 [(.bin .Add (.bin .Mult (.v 3) (.v 6)) (.bin .Mult (.v 5) (.v 4))), (.bin .Mult (.v 4) (.v 6))]), (.call 17 [(.bin .Mult (.v 3) (.v 5)), (.bin .Mult (.v 4) (.v 6))]), (.tup [(.c (.int 0)), (.c (.int 1))])])])) [(.ret (.c (.bl false)))] []),
    (.ite (.cmp .Eq (.v 5) (.c (.int 0))) [(.ret (.cmp .Eq (.err (.call 11 [(.v 1), (.v 2)])) (.c (.str (PySem.Str.ofString "no")))))] []),
    (.ret (.call 15 [(.lst [(.call 11 [(.v 1), (.v 2)]), (.call 10 [(.call 11 [(.v 1), (.v 2)]), (.v 2)])]), (.lst [(.call 17 [(.bin .Mult (.v 3) (.v 6)), (.bin .Mult (.v 4) (.v 5))]), (.v 1)])]))]⟩
/-! 20: _law_limits_right(cup); slots 0 cup 1 near 2 odds 3 words 4 odd 5 name 6 told 7 value; statement 31 -/
def n_d_law_limits_right : List Str := [PySem.Str.ofString "cup", PySem.Str.ofString "near", PySem.Str.ofString "odds", PySem.Str.ofString "words", PySem.Str.ofString "odd", PySem.Str.ofString "name", PySem.Str.ofString "told", PySem.Str.ofString "value"]
def d_law_limits_right : FD := ⟨1, 8, [(.set 1 (.bin .Pow (.c (.int 10)) (.c (.int 6)))),
    (.set 2 (.lst [(.c .non), (.tup []), (.tup [(.c (.int 1))]), (.tup [(.c (.int 1)), (.c (.int 0))]), (.tup [(.c (.int 1)), (.neg (.c (.int 2)))]), (.tup [(.c (.int 2)), (.c (.int 4))]), (.tup [(.c (.int 0)), (.c (.int 2))]), (.lst [(.c (.int 1)), (.c (.int 2))]), (.tup [(.c (.bl true)), (.c (.int 1))]), (.tup [(.c (.int 1)), (.c (.bl true))]), (.tup [(.c (.int 1)), (.c (.int 2)), (.c (.int 3))]), (.c (.int 1)), (.tup [(.c (.str (PySem.Str.ofString "1"))), (.c (.int 1))]), (.tup [(.c (.int 1)), (.c .non)]), (.tup [(.neg (.c (.int 6))), (.c (.int 3))])])),
    (.ite (.not (.call 15 [(.lc [4] (.n 4) (.bin .Add (.v 2) (.lst [(.tup [(.c (.int 0)), (.c (.int 1))]), (.tup [(.neg (.c (.int 3))), (.c (.int 2))]), (.tup [(.bin .Pow (.c (.int 10)) (.c (.int 50))), (.bin .Add (.bin .Pow (.c (.int 10)) (.c (.int 50))) (.c (.int 1)))])])) [] (.call 2 [(.v 4)])), (.bin .Add (.bin .Mult (.lst [(.c (.bl false))]) (.c (.int 15))) (.bin .Mult (.lst [(.c (.bl true))]) (.c (.int 3))))])) [(.ret (.c (.bl false)))] []),
    (.ite (.not (.call 15 [(.lc [7] (.n 7) (.bin .Add (.v 2) (.lst [(.tup [(.bin .Add (.v 1) (.c (.int 1))), (.c (.int 1))]), (.tup [(.c (.int 1)), (.bin .Add (.v 1) (.c (.int 1)))]), (.tup [(.bin .Sub (.neg (.v 1)) (.c (.int 1))), (.c (.int 1))]), (.tup [(.v 1), (.c (.int 1))]), (.tup [(.neg (.v 1)), (.bin .Sub (.v 1) (.c (.int 1)))]), (.tup [(.c (.int 1)), (.v 1)]), (.tup [(.bin .Add (.neg (.v 1)) (.c (.int 1))), (.v 1)])])) [] (.call 3 [(.v 7)])), (.bin .Add (.bin .Mult (.lst [(.c (.bl false))]) (.c (.int 18))) (.bin .Mult (.lst [(.c (.bl true))]) (.c (.int 4))))])) [(.ret (.c (.bl false)))] []),
    (.set 3 (.lst [])),
    (.for_ (.n 4) (.v 2) [(.for_ (.n 5) (.tup [(.f 9), (.f 10), (.f 11)]) [(.set 3 (.bin .Add (.v 3) (.lst [(.err (.callv 5 [(.v 4), (.c .non)]))]))),
    (.set 3 (.bin .Add (.v 3) (.lst [(.err (.callv 5 [(.tup [(.c (.int 1)), (.c (.int 2))]), (.v 4)]))])))])]),
    (.set 3 (.bin .Add (.v 3) (.lst [(.err (.call 11 [(.tup [(.c (.int 1)), (.c (.int 2))]), (.tup [(.c (.int 0)), (.c (.int 1))])]))]))),
    (.set 3 (.bin .Add (.v 3) (.lc [4] (.n 4) (.v 2) [] (.err (.call 11 [(.v 4), (.tup [(.c (.int 0)), (.c (.int 1))])]))))),
    (.set 6 (.lst [(.call 9 [(.tup [(.c (.int 1)), (.c (.int 2))]), (.tup [(.c (.int 1)), (.c (.int 3))])]), (.call 10 [(.tup [(.c (.int 2)), (.c (.int 3))]), (.tup [(.neg (.c (.int 3))), (.c (.int 4))])]), (.call 11 [(.tup [(.c (.int 1)), (.c (.int 2))]), (.tup [(.neg (.c (.int 3))), (.c (.int 1))])]), (.call 11 [(.tup [(.c (.int 0)), (.c (.int 1))]), (.tup [(.neg (.c (.int 2))), (.c (.int 1))])]), (.call 9 [(.tup [(.c (.int 1)), (.c (.int 2))]), (.tup [(.neg (.c (.int 1))), (.c (.int 2))])])])),
    (.ret (.bop .And [(.cmp .Eq (.v 3) (.bin .Add (.bin .Add (.bin .Mult (.lst [(.c (.str (PySem.Str.ofString "fraction")))]) (.c (.int 90))) (.lst [(.c (.str (PySem.Str.ofString "no")))])) (.bin .Mult (.lst [(.c (.str (PySem.Str.ofString "fraction")))]) (.c (.int 15))))), (.call 15 [(.v 6), (.lst [(.tup [(.c (.int 5)), (.c (.int 6))]), (.tup [(.neg (.c (.int 1))), (.c (.int 2))]), (.tup [(.neg (.c (.int 1))), (.c (.int 6))]), (.tup [(.c (.int 0)), (.c (.int 1))]), (.tup [(.c (.int 0)), (.c (.int 1))])])])]))]⟩
def prog : List FD := [d_is_whole, d_is_tuple_of, d_is_fraction, d_is_portion, d_need_fraction, d_lowest, d_plus, d_times, d_over, d_fraction_sum, d_fraction_product, d_fraction_by, d_law_roll, d_law_some, d_law_sort, d_law_like, d_law_divisor, d_law_plain, d_law_fraction, d_law_two_right, d_law_limits_right]
def fnames : List Str := [PySem.Str.ofString "is_whole", PySem.Str.ofString "is_tuple_of", PySem.Str.ofString "is_fraction", PySem.Str.ofString "is_portion", PySem.Str.ofString "need_fraction", PySem.Str.ofString "lowest", PySem.Str.ofString "plus", PySem.Str.ofString "times", PySem.Str.ofString "over", PySem.Str.ofString "fraction_sum", PySem.Str.ofString "fraction_product", PySem.Str.ofString "fraction_by", PySem.Str.ofString "_law_roll", PySem.Str.ofString "_law_some", PySem.Str.ofString "_law_sort", PySem.Str.ofString "_law_like", PySem.Str.ofString "_law_divisor", PySem.Str.ofString "_law_plain", PySem.Str.ofString "_law_fraction", PySem.Str.ofString "_law_two_right", PySem.Str.ofString "_law_limits_right"]
def cnames : List Str := [PySem.Str.ofString "FigureError", PySem.Str.ofString "InvalidPortion", PySem.Str.ofString "NotFound"]
def places : List Nat := [6, 7, 10, 11, 12, 13, 14, 15, 16, 17, 18, 19, 22, 23, 24, 25, 26, 27, 28, 30, 31]
def nameses : List (List Str) := [n_d_is_whole, n_d_is_tuple_of, n_d_is_fraction, n_d_is_portion, n_d_need_fraction, n_d_lowest, n_d_plus, n_d_times, n_d_over, n_d_fraction_sum, n_d_fraction_product, n_d_fraction_by, n_d_law_roll, n_d_law_some, n_d_law_sort, n_d_law_like, n_d_law_divisor, n_d_law_plain, n_d_law_fraction, n_d_law_two_right, n_d_law_limits_right]
def sub (j k : Nat) : Option Bool := (([[true, false, false], [true, true, false], [true, false, true]] : List (List Bool)).getD j [])[k]?
def consts : List (Str × D) := [(PySem.Str.ofString "FAR", (.int 1000000))]
def n_err : List Str := [PySem.Str.ofString "call", PySem.Str.ofString "e", PySem.Str.ofString "word", PySem.Str.ofString "is_so"]
def s_err : List Sx := [(.ret (.join (.c (.str (PySem.Str.ofString ""))) (.lc [2, 3] (.t [(.n 2), (.n 3)]) (.lst [(.tup [(.c (.str (PySem.Str.ofString "fraction"))), (.isE 1 [(0, false), (1, true), (2, false)] 1)]), (.tup [(.c (.str (PySem.Str.ofString "no"))), (.isE 1 [(0, false), (1, false), (2, true)] 2)])]) [(.v 3)] (.v 2))))]
def n_law : List Str := [PySem.Str.ofString "script", PySem.Str.ofString "cup", PySem.Str.ofString "turn"]
def s_law : List Sx := [(.for_ (.n 2) (.rng (.c (.int 12))) [(.ite (.not (.call 19 [(.v 1)])) [(.ret (.c (.bl false)))] [])]),
    (.ret (.call 20 [(.v 1)]))]
end K00
namespace K00
open Ev PySem PySem.Spec PyProof.Rows L2 LamX
def top (i : Nat) : Stmt := PySem.Challenge.pw_figuresproved_k00_whole_fractions.main.body.getD i (.Pass ⟨0, 0, 0, 0⟩)
def bts : List Str := [("isinstance" : Str), ("int" : Str), ("bool" : Str), ("str" : Str), ("tuple" : Str), ("list" : Str), ("len" : Str), ("abs" : Str), ("all" : Str), ("any" : Str), ("sum" : Str), ("range" : Str), ("zip" : Str)]
def pc : PC := ⟨fnames, cnames, bts, consts, "_law_error", sub⟩
def wds : Words := fun k => match k with | 1 => some ("fraction" : Str) | 2 => some ("no" : Str) | _ => none
def ps_is_whole : List Str := [("value" : Str), ("low" : Str), ("high" : Str)]
theorem bf_is_whole : BindF ("is_whole" : Str) (top 6) ps_is_whole := fun _ _ _ _ _ _ us hl => match us, hl with | [_, _, _], _ => rfl
def ps_is_tuple_of : List Str := [("value" : Str), ("low" : Str), ("high" : Str)]
theorem bf_is_tuple_of : BindF ("is_tuple_of" : Str) (top 7) ps_is_tuple_of := fun _ _ _ _ _ _ us hl => match us, hl with | [_, _, _], _ => rfl
def ps_is_fraction : List Str := [("value" : Str)]
theorem bf_is_fraction : BindF ("is_fraction" : Str) (top 10) ps_is_fraction := fun _ _ _ _ _ _ us hl => match us, hl with | [_], _ => rfl
def ps_is_portion : List Str := [("value" : Str)]
theorem bf_is_portion : BindF ("is_portion" : Str) (top 11) ps_is_portion := fun _ _ _ _ _ _ us hl => match us, hl with | [_], _ => rfl
def ps_need_fraction : List Str := [("value" : Str)]
theorem bf_need_fraction : BindF ("need_fraction" : Str) (top 12) ps_need_fraction := fun _ _ _ _ _ _ us hl => match us, hl with | [_], _ => rfl
def ps_lowest : List Str := [("top" : Str), ("bottom" : Str)]
theorem bf_lowest : BindF ("lowest" : Str) (top 13) ps_lowest := fun _ _ _ _ _ _ us hl => match us, hl with | [_, _], _ => rfl
def ps_plus : List Str := [("one" : Str), ("other" : Str)]
theorem bf_plus : BindF ("plus" : Str) (top 14) ps_plus := fun _ _ _ _ _ _ us hl => match us, hl with | [_, _], _ => rfl
def ps_times : List Str := [("one" : Str), ("other" : Str)]
theorem bf_times : BindF ("times" : Str) (top 15) ps_times := fun _ _ _ _ _ _ us hl => match us, hl with | [_, _], _ => rfl
def ps_over : List Str := [("one" : Str), ("other" : Str)]
theorem bf_over : BindF ("over" : Str) (top 16) ps_over := fun _ _ _ _ _ _ us hl => match us, hl with | [_, _], _ => rfl
def ps_fraction_sum : List Str := [("one" : Str), ("other" : Str)]
theorem bf_fraction_sum : BindF ("fraction_sum" : Str) (top 17) ps_fraction_sum := fun _ _ _ _ _ _ us hl => match us, hl with | [_, _], _ => rfl
def ps_fraction_product : List Str := [("one" : Str), ("other" : Str)]
theorem bf_fraction_product : BindF ("fraction_product" : Str) (top 18) ps_fraction_product := fun _ _ _ _ _ _ us hl => match us, hl with | [_, _], _ => rfl
def ps_fraction_by : List Str := [("one" : Str), ("other" : Str)]
theorem bf_fraction_by : BindF ("fraction_by" : Str) (top 19) ps_fraction_by := fun _ _ _ _ _ _ us hl => match us, hl with | [_, _], _ => rfl
def ps__law_roll : List Str := [("cup" : Str), ("many" : Str)]
theorem bf__law_roll : BindF ("_law_roll" : Str) (top 22) ps__law_roll := fun _ _ _ _ _ _ us hl => match us, hl with | [_, _], _ => rfl
def ps__law_some : List Str := [("cup" : Str), ("things" : Str)]
theorem bf__law_some : BindF ("_law_some" : Str) (top 23) ps__law_some := fun _ _ _ _ _ _ us hl => match us, hl with | [_, _], _ => rfl
def ps__law_sort : List Str := [("value" : Str)]
theorem bf__law_sort : BindF ("_law_sort" : Str) (top 24) ps__law_sort := fun _ _ _ _ _ _ us hl => match us, hl with | [_], _ => rfl
def ps__law_like : List Str := [("one" : Str), ("other" : Str)]
theorem bf__law_like : BindF ("_law_like" : Str) (top 25) ps__law_like := fun _ _ _ _ _ _ us hl => match us, hl with | [_, _], _ => rfl
def ps__law_divisor : List Str := [("one" : Str), ("other" : Str)]
theorem bf__law_divisor : BindF ("_law_divisor" : Str) (top 26) ps__law_divisor := fun _ _ _ _ _ _ us hl => match us, hl with | [_, _], _ => rfl
def ps__law_plain : List Str := [("top" : Str), ("bottom" : Str)]
theorem bf__law_plain : BindF ("_law_plain" : Str) (top 27) ps__law_plain := fun _ _ _ _ _ _ us hl => match us, hl with | [_, _], _ => rfl
def ps__law_fraction : List Str := [("cup" : Str)]
theorem bf__law_fraction : BindF ("_law_fraction" : Str) (top 28) ps__law_fraction := fun _ _ _ _ _ _ us hl => match us, hl with | [_], _ => rfl
def ps__law_two_right : List Str := [("cup" : Str)]
theorem bf__law_two_right : BindF ("_law_two_right" : Str) (top 30) ps__law_two_right := fun _ _ _ _ _ _ us hl => match us, hl with | [_], _ => rfl
def ps__law_limits_right : List Str := [("cup" : Str)]
theorem bf__law_limits_right : BindF ("_law_limits_right" : Str) (top 31) ps__law_limits_right := fun _ _ _ _ _ _ us hl => match us, hl with | [_], _ => rfl
def ps__law_cup : List Str := [("script" : Str)]
theorem bf__law_cup : BindF ("_law_cup" : Str) (top 21) ps__law_cup := fun _ _ _ _ _ _ us hl => match us, hl with | [_], _ => rfl
def ps__law_error : List Str := [("call" : Str)]
theorem bf__law_error : BindF ("_law_error" : Str) (top 29) ps__law_error := fun _ _ _ _ _ _ us hl => match us, hl with | [_], _ => rfl
def ps_law : List Str := [("script" : Str)]
theorem bf_law : BindF ("law" : Str) (top 32) ps_law := fun _ _ _ _ _ _ us hl => match us, hl with | [_], _ => rfl
theorem dc_is_whole : defChk pc n_d_is_whole ps_is_whole false d_is_whole (top 6) = true := by decide +kernel
theorem dc_is_tuple_of : defChk pc n_d_is_tuple_of ps_is_tuple_of false d_is_tuple_of (top 7) = true := by decide +kernel
theorem dc_is_fraction : defChk pc n_d_is_fraction ps_is_fraction false d_is_fraction (top 10) = true := by decide +kernel
theorem dc_is_portion : defChk pc n_d_is_portion ps_is_portion false d_is_portion (top 11) = true := by decide +kernel
theorem dc_need_fraction : defChk pc n_d_need_fraction ps_need_fraction false d_need_fraction (top 12) = true := by decide +kernel
theorem dc_lowest : defChk pc n_d_lowest ps_lowest false d_lowest (top 13) = true := by decide +kernel
theorem dc_plus : defChk pc n_d_plus ps_plus false d_plus (top 14) = true := by decide +kernel
theorem dc_times : defChk pc n_d_times ps_times false d_times (top 15) = true := by decide +kernel
theorem dc_over : defChk pc n_d_over ps_over false d_over (top 16) = true := by decide +kernel
theorem dc_fraction_sum : defChk pc n_d_fraction_sum ps_fraction_sum false d_fraction_sum (top 17) = true := by decide +kernel
theorem dc_fraction_product : defChk pc n_d_fraction_product ps_fraction_product false d_fraction_product (top 18) = true := by decide +kernel
theorem dc_fraction_by : defChk pc n_d_fraction_by ps_fraction_by false d_fraction_by (top 19) = true := by decide +kernel
theorem dc__law_roll : defChk pc n_d_law_roll ps__law_roll false d_law_roll (top 22) = true := by decide +kernel
theorem dc__law_some : defChk pc n_d_law_some ps__law_some false d_law_some (top 23) = true := by decide +kernel
theorem dc__law_sort : defChk pc n_d_law_sort ps__law_sort false d_law_sort (top 24) = true := by decide +kernel
theorem dc__law_like : defChk pc n_d_law_like ps__law_like false d_law_like (top 25) = true := by decide +kernel
theorem dc__law_divisor : defChk pc n_d_law_divisor ps__law_divisor false d_law_divisor (top 26) = true := by decide +kernel
theorem dc__law_plain : defChk pc n_d_law_plain ps__law_plain false d_law_plain (top 27) = true := by decide +kernel
theorem dc__law_fraction : defChk pc n_d_law_fraction ps__law_fraction false d_law_fraction (top 28) = true := by decide +kernel
theorem dc__law_two_right : defChk pc n_d_law_two_right ps__law_two_right true d_law_two_right (top 30) = true := by decide +kernel
theorem dc__law_limits_right : defChk pc n_d_law_limits_right ps__law_limits_right true d_law_limits_right (top 31) = true := by decide +kernel
theorem at_ {w : World} {K : PySem.W.Frag} {mg : Str → Option Value} {fa : Addr} {h : Heap} {ts : List Addr} (KX : K.In h) (G : h.Ns mainGlobals mg) (hfa : mg "law" = some (.ref fa)) (Y : ∀ P ∈ ts, h.get? P = some { cls := .none, data := .fields #[] })
  {f_is_whole f_is_tuple_of f_is_fraction f_is_portion f_need_fraction f_lowest f_plus f_times f_over f_fraction_sum f_fraction_product f_fraction_by f__law_roll f__law_some f__law_sort f__law_like f__law_divisor f__law_plain f__law_fraction f__law_two_right f__law_limits_right f__law_cup f__law_error f_law : Addr} {v_is_whole v_is_tuple_of v_is_fraction v_is_portion v_need_fraction v_lowest v_plus v_times v_over v_fraction_sum v_fraction_product v_fraction_by v__law_roll v__law_some v__law_sort v__law_like v__law_divisor v__law_plain v__law_fraction v__law_cup v__law_error v_law : Value} {c__law_two_right t__law_two_right c__law_limits_right t__law_limits_right C0 C1 C2 : Addr}
  (D_is_whole : DF K ("is_whole" : Str) (top 6) f_is_whole v_is_whole)
  (D_is_tuple_of : DF K ("is_tuple_of" : Str) (top 7) f_is_tuple_of v_is_tuple_of)
  (D_is_fraction : DF K ("is_fraction" : Str) (top 10) f_is_fraction v_is_fraction)
  (D_is_portion : DF K ("is_portion" : Str) (top 11) f_is_portion v_is_portion)
  (D_need_fraction : DF K ("need_fraction" : Str) (top 12) f_need_fraction v_need_fraction)
  (D_lowest : DF K ("lowest" : Str) (top 13) f_lowest v_lowest)
  (D_plus : DF K ("plus" : Str) (top 14) f_plus v_plus)
  (D_times : DF K ("times" : Str) (top 15) f_times v_times)
  (D_over : DF K ("over" : Str) (top 16) f_over v_over)
  (D_fraction_sum : DF K ("fraction_sum" : Str) (top 17) f_fraction_sum v_fraction_sum)
  (D_fraction_product : DF K ("fraction_product" : Str) (top 18) f_fraction_product v_fraction_product)
  (D_fraction_by : DF K ("fraction_by" : Str) (top 19) f_fraction_by v_fraction_by)
  (D__law_roll : DF K ("_law_roll" : Str) (top 22) f__law_roll v__law_roll)
  (D__law_some : DF K ("_law_some" : Str) (top 23) f__law_some v__law_some)
  (D__law_sort : DF K ("_law_sort" : Str) (top 24) f__law_sort v__law_sort)
  (D__law_like : DF K ("_law_like" : Str) (top 25) f__law_like v__law_like)
  (D__law_divisor : DF K ("_law_divisor" : Str) (top 26) f__law_divisor v__law_divisor)
  (D__law_plain : DF K ("_law_plain" : Str) (top 27) f__law_plain v__law_plain)
  (D__law_fraction : DF K ("_law_fraction" : Str) (top 28) f__law_fraction v__law_fraction)
  (D__law_two_right : DF K ("_law_two_right" : Str) (top 30) f__law_two_right (.ref c__law_two_right))
  (D__law_limits_right : DF K ("_law_limits_right" : Str) (top 31) f__law_limits_right (.ref c__law_limits_right))
  (D__law_cup : DF K ("_law_cup" : Str) (top 21) f__law_cup v__law_cup)
  (D__law_error : DF K ("_law_error" : Str) (top 29) f__law_error v__law_error)
  (D_law : DF K ("law" : Str) (top 32) f_law v_law)
  (H__law_two_right : PySem.W.codeHdIn K c__law_two_right t__law_two_right = true) (N__law_two_right : K.lookup t__law_two_right = none) (M__law_two_right : t__law_two_right ∈ ts)
  (H__law_limits_right : PySem.W.codeHdIn K c__law_limits_right t__law_limits_right = true) (N__law_limits_right : K.lookup t__law_limits_right = none) (M__law_limits_right : t__law_limits_right ∈ ts)
  (Q_1_0 : t__law_limits_right ≠ t__law_two_right)
  (aC0 : PySem.W.nsIn K mainGlobals ("FigureError" : Str) = some (some (.ref C0))) (kC0 : PySem.W.keepIn K (.ref C0) = true) (qC0 : PySem.W.excIn K C0 [.type "ValueError", .type "Exception", .type "BaseException", .type "object"] "ValueError.__new__" = true) (sC0 : PySem.W.subIn K (.ref C0) (.type "BaseException") = some true) (yC0 : PySem.W.typeIn K (.ref C0) = some (.type "type"))
  (aC1 : PySem.W.nsIn K mainGlobals ("InvalidPortion" : Str) = some (some (.ref C1))) (kC1 : PySem.W.keepIn K (.ref C1) = true) (qC1 : PySem.W.excIn K C1 [.type "ValueError", .type "Exception", .type "BaseException", .type "object"] "ValueError.__new__" = true) (sC1 : PySem.W.subIn K (.ref C1) (.type "BaseException") = some true) (yC1 : PySem.W.typeIn K (.ref C1) = some (.type "type"))
  (aC2 : PySem.W.nsIn K mainGlobals ("NotFound" : Str) = some (some (.ref C2))) (kC2 : PySem.W.keepIn K (.ref C2) = true) (qC2 : PySem.W.excIn K C2 [.type "ValueError", .type "Exception", .type "BaseException", .type "object"] "ValueError.__new__" = true) (sC2 : PySem.W.subIn K (.ref C2) (.type "BaseException") = some true) (yC2 : PySem.W.typeIn K (.ref C2) = some (.type "type"))
  (eC1 : PySem.W.exmOne K (.ref C1) (.ref C0) = some true) (xC1 : ExcC K C1) (iC1_0 : PySem.W.kitOne K (.ref C1) (.ref C0) = some true) (iC1_1 : PySem.W.kitOne K (.ref C1) (.ref C1) = some true) (iC1_2 : PySem.W.kitOne K (.ref C1) (.ref C2) = some false)
  (eC2 : PySem.W.exmOne K (.ref C2) (.ref C0) = some true) (xC2 : ExcC K C2) (iC2_0 : PySem.W.kitOne K (.ref C2) (.ref C0) = some true) (iC2_1 : PySem.W.kitOne K (.ref C2) (.ref C1) = some false) (iC2_2 : PySem.W.kitOne K (.ref C2) (.ref C2) = some true)
  (b_isinstance : PySem.W.nsIn K mainGlobals ("isinstance" : Str) = some none)
  (b_int : PySem.W.nsIn K mainGlobals ("int" : Str) = some none)
  (b_bool : PySem.W.nsIn K mainGlobals ("bool" : Str) = some none)
  (b_str : PySem.W.nsIn K mainGlobals ("str" : Str) = some none)
  (b_tuple : PySem.W.nsIn K mainGlobals ("tuple" : Str) = some none)
  (b_list : PySem.W.nsIn K mainGlobals ("list" : Str) = some none)
  (b_len : PySem.W.nsIn K mainGlobals ("len" : Str) = some none)
  (b_abs : PySem.W.nsIn K mainGlobals ("abs" : Str) = some none)
  (b_all : PySem.W.nsIn K mainGlobals ("all" : Str) = some none)
  (b_any : PySem.W.nsIn K mainGlobals ("any" : Str) = some none)
  (b_sum : PySem.W.nsIn K mainGlobals ("sum" : Str) = some none)
  (b_range : PySem.W.nsIn K mainGlobals ("range" : Str) = some none)
  (b_zip : PySem.W.nsIn K mainGlobals ("zip" : Str) = some none)
  (b_gcd : PySem.W.nsIn K mainGlobals "gcd" = some (some (.builtin "math.gcd")))
  {k_FAR : Tok} (K_FAR : PySem.W.nsIn K mainGlobals ("FAR" : Str) = some (some (.int 1000000 k_FAR)))
  (hplain : ∀ ns : List Int, ns.length ≤ 63 → ∃ u', evSs wds "none" (run wds "none" prog 12) s_law (lawEnv n_law.length) (cup0 ns) = .ret (.bl true) u') :
  LawAtS PySem.Challenge.rw_figuresproved_k00_whole_fractions w K (L2N.CX PySem.Challenge.rw_figuresproved_k00_whole_fractions.prog w) (3 * 12 + 3) 63 "script" mg fa h := by
  let f : Fx := ⟨fun k => ([f_is_whole, f_is_tuple_of, f_is_fraction, f_is_portion, f_need_fraction, f_lowest, f_plus, f_times, f_over, f_fraction_sum, f_fraction_product, f_fraction_by, f__law_roll, f__law_some, f__law_sort, f__law_like, f__law_divisor, f__law_plain, f__law_fraction, f__law_two_right, f__law_limits_right] : List Addr).getD k 0, fun k => ([C0, C1, C2] : List Addr).getD k 0, [(t__law_two_right, ("_law_two_right" : Str) ++ ".<locals>." ++ "<lambda>"), (t__law_limits_right, ("_law_limits_right" : Str) ++ ".<locals>." ++ "<lambda>")], fun k => k < 21, 0, 0⟩
  have fx : ∀ k x, fnames[k]? = some x → ∃ (st : Stmt) (cdv : Value) (N ps : List Str) (er : Bool) (fd : FD), prog[k]? = some fd ∧ DF K x st (f.fa k) cdv ∧ BindF x st ps ∧ defChk pc N ps er fd st = true ∧ (er = true → ∃ c t, cdv = .ref c ∧ (c, t) ∈ [(c__law_two_right, t__law_two_right), (c__law_limits_right, t__law_limits_right)] ∧ (t, x ++ ".<locals>." ++ "<lambda>") ∈ f.T ∧ ∀ q ∈ f.T, q.1 = t → q.2 = x ++ ".<locals>." ++ "<lambda>") := by
    intro k x hk
    match k, hk with
    | 0, hk => cases (Option.some.inj (show some ("is_whole" : Str) = some x from hk)); exact ⟨top 6, _, n_d_is_whole, ps_is_whole, false, d_is_whole, rfl, D_is_whole, bf_is_whole, dc_is_whole, fun z => by cases z⟩
    | 1, hk => cases (Option.some.inj (show some ("is_tuple_of" : Str) = some x from hk)); exact ⟨top 7, _, n_d_is_tuple_of, ps_is_tuple_of, false, d_is_tuple_of, rfl, D_is_tuple_of, bf_is_tuple_of, dc_is_tuple_of, fun z => by cases z⟩
    | 2, hk => cases (Option.some.inj (show some ("is_fraction" : Str) = some x from hk)); exact ⟨top 10, _, n_d_is_fraction, ps_is_fraction, false, d_is_fraction, rfl, D_is_fraction, bf_is_fraction, dc_is_fraction, fun z => by cases z⟩
    | 3, hk => cases (Option.some.inj (show some ("is_portion" : Str) = some x from hk)); exact ⟨top 11, _, n_d_is_portion, ps_is_portion, false, d_is_portion, rfl, D_is_portion, bf_is_portion, dc_is_portion, fun z => by cases z⟩
    | 4, hk => cases (Option.some.inj (show some ("need_fraction" : Str) = some x from hk)); exact ⟨top 12, _, n_d_need_fraction, ps_need_fraction, false, d_need_fraction, rfl, D_need_fraction, bf_need_fraction, dc_need_fraction, fun z => by cases z⟩
    | 5, hk => cases (Option.some.inj (show some ("lowest" : Str) = some x from hk)); exact ⟨top 13, _, n_d_lowest, ps_lowest, false, d_lowest, rfl, D_lowest, bf_lowest, dc_lowest, fun z => by cases z⟩
    | 6, hk => cases (Option.some.inj (show some ("plus" : Str) = some x from hk)); exact ⟨top 14, _, n_d_plus, ps_plus, false, d_plus, rfl, D_plus, bf_plus, dc_plus, fun z => by cases z⟩
    | 7, hk => cases (Option.some.inj (show some ("times" : Str) = some x from hk)); exact ⟨top 15, _, n_d_times, ps_times, false, d_times, rfl, D_times, bf_times, dc_times, fun z => by cases z⟩
    | 8, hk => cases (Option.some.inj (show some ("over" : Str) = some x from hk)); exact ⟨top 16, _, n_d_over, ps_over, false, d_over, rfl, D_over, bf_over, dc_over, fun z => by cases z⟩
    | 9, hk => cases (Option.some.inj (show some ("fraction_sum" : Str) = some x from hk)); exact ⟨top 17, _, n_d_fraction_sum, ps_fraction_sum, false, d_fraction_sum, rfl, D_fraction_sum, bf_fraction_sum, dc_fraction_sum, fun z => by cases z⟩
    | 10, hk => cases (Option.some.inj (show some ("fraction_product" : Str) = some x from hk)); exact ⟨top 18, _, n_d_fraction_product, ps_fraction_product, false, d_fraction_product, rfl, D_fraction_product, bf_fraction_product, dc_fraction_product, fun z => by cases z⟩
    | 11, hk => cases (Option.some.inj (show some ("fraction_by" : Str) = some x from hk)); exact ⟨top 19, _, n_d_fraction_by, ps_fraction_by, false, d_fraction_by, rfl, D_fraction_by, bf_fraction_by, dc_fraction_by, fun z => by cases z⟩
    | 12, hk => cases (Option.some.inj (show some ("_law_roll" : Str) = some x from hk)); exact ⟨top 22, _, n_d_law_roll, ps__law_roll, false, d_law_roll, rfl, D__law_roll, bf__law_roll, dc__law_roll, fun z => by cases z⟩
    | 13, hk => cases (Option.some.inj (show some ("_law_some" : Str) = some x from hk)); exact ⟨top 23, _, n_d_law_some, ps__law_some, false, d_law_some, rfl, D__law_some, bf__law_some, dc__law_some, fun z => by cases z⟩
    | 14, hk => cases (Option.some.inj (show some ("_law_sort" : Str) = some x from hk)); exact ⟨top 24, _, n_d_law_sort, ps__law_sort, false, d_law_sort, rfl, D__law_sort, bf__law_sort, dc__law_sort, fun z => by cases z⟩
    | 15, hk => cases (Option.some.inj (show some ("_law_like" : Str) = some x from hk)); exact ⟨top 25, _, n_d_law_like, ps__law_like, false, d_law_like, rfl, D__law_like, bf__law_like, dc__law_like, fun z => by cases z⟩
    | 16, hk => cases (Option.some.inj (show some ("_law_divisor" : Str) = some x from hk)); exact ⟨top 26, _, n_d_law_divisor, ps__law_divisor, false, d_law_divisor, rfl, D__law_divisor, bf__law_divisor, dc__law_divisor, fun z => by cases z⟩
    | 17, hk => cases (Option.some.inj (show some ("_law_plain" : Str) = some x from hk)); exact ⟨top 27, _, n_d_law_plain, ps__law_plain, false, d_law_plain, rfl, D__law_plain, bf__law_plain, dc__law_plain, fun z => by cases z⟩
    | 18, hk => cases (Option.some.inj (show some ("_law_fraction" : Str) = some x from hk)); exact ⟨top 28, _, n_d_law_fraction, ps__law_fraction, false, d_law_fraction, rfl, D__law_fraction, bf__law_fraction, dc__law_fraction, fun z => by cases z⟩
    | 19, hk => cases (Option.some.inj (show some ("_law_two_right" : Str) = some x from hk)); exact ⟨top 30, _, n_d_law_two_right, ps__law_two_right, true, d_law_two_right, rfl, D__law_two_right, bf__law_two_right, dc__law_two_right, fun _ => ⟨c__law_two_right, t__law_two_right, rfl, by simp, by simp [f], fun q hq e => by
        have hq : q ∈ [(t__law_two_right, ("_law_two_right" : Str) ++ ".<locals>." ++ "<lambda>"), (t__law_limits_right, ("_law_limits_right" : Str) ++ ".<locals>." ++ "<lambda>")] := hq
        simp only [List.mem_cons, List.not_mem_nil, or_false] at hq
        rcases hq with rfl | rfl
        · rfl
        · exact absurd e Q_1_0⟩⟩
    | 20, hk => cases (Option.some.inj (show some ("_law_limits_right" : Str) = some x from hk)); exact ⟨top 31, _, n_d_law_limits_right, ps__law_limits_right, true, d_law_limits_right, rfl, D__law_limits_right, bf__law_limits_right, dc__law_limits_right, fun _ => ⟨c__law_limits_right, t__law_limits_right, rfl, by simp, by simp [f], fun q hq e => by
        have hq : q ∈ [(t__law_two_right, ("_law_two_right" : Str) ++ ".<locals>." ++ "<lambda>"), (t__law_limits_right, ("_law_limits_right" : Str) ++ ".<locals>." ++ "<lambda>")] := hq
        simp only [List.mem_cons, List.not_mem_nil, or_false] at hq
        rcases hq with rfl | rfl
        · exact absurd e (Ne.symm Q_1_0)
        · rfl
        ⟩⟩
    | k + 21, hk => cases hk
  have cnx : ∀ k y, cnames[k]? = some y → mg y = some (.ref (f.ca k)) ∧ PySem.W.excIn K (f.ca k) [.type "ValueError", .type "Exception", .type "BaseException", .type "object"] "ValueError.__new__" = true ∧ PySem.W.keepIn K (.ref (f.ca k)) = true ∧ PySem.W.subIn K (.ref (f.ca k)) (.type "BaseException") = some true ∧ PySem.W.typeIn K (.ref (f.ca k)) = some (.type "type") := by
    intro k y hk
    match k, hk with
    | 0, hk => cases (Option.some.inj (show some ("FigureError" : Str) = some y from hk)); exact ⟨PySem.W.mg_of KX G aC0, qC0, kC0, sC0, yC0⟩
    | 1, hk => cases (Option.some.inj (show some ("InvalidPortion" : Str) = some y from hk)); exact ⟨PySem.W.mg_of KX G aC1, qC1, kC1, sC1, yC1⟩
    | 2, hk => cases (Option.some.inj (show some ("NotFound" : Str) = some y from hk)); exact ⟨PySem.W.mg_of KX G aC2, qC2, kC2, sC2, yC2⟩
    | k + 3, hk => cases hk
  have btx : ∀ x ∈ bts, mg x = none := by
    intro x hx
    simp only [bts, List.mem_cons, List.not_mem_nil, or_false] at hx
    rcases hx with rfl | rfl | rfl | rfl | rfl | rfl | rfl | rfl | rfl | rfl | rfl | rfl | rfl
    · exact PySem.W.mg_none_of KX G b_isinstance
    · exact PySem.W.mg_none_of KX G b_int
    · exact PySem.W.mg_none_of KX G b_bool
    · exact PySem.W.mg_none_of KX G b_str
    · exact PySem.W.mg_none_of KX G b_tuple
    · exact PySem.W.mg_none_of KX G b_list
    · exact PySem.W.mg_none_of KX G b_len
    · exact PySem.W.mg_none_of KX G b_abs
    · exact PySem.W.mg_none_of KX G b_all
    · exact PySem.W.mg_none_of KX G b_any
    · exact PySem.W.mg_none_of KX G b_sum
    · exact PySem.W.mg_none_of KX G b_range
    · exact PySem.W.mg_none_of KX G b_zip
  have gcdx : mg "gcd" = some (.builtin "math.gcd") := PySem.W.mg_of KX G b_gcd
  have hd : ∀ base, HdOk ⟨PySem.Challenge.rw_figuresproved_k00_whole_fractions.prog, w, K, mg, base⟩ pc f wds "none" C0 4 1 s_err := fun base => {
    cls := fun k x hk => by
      match k, hk with
      | 0, hk => cases hk
      | 1, hk => exact ⟨eC1, xC1, fun j b hb => by
          match j, hb with
          | 0, hb => cases (Option.some.inj (show some true = some b from hb)); exact iC1_0
          | 1, hb => cases (Option.some.inj (show some true = some b from hb)); exact iC1_1
          | 2, hb => cases (Option.some.inj (show some false = some b from hb)); exact iC1_2
          | j + 3, hb => cases hb⟩
      | 2, hk => exact ⟨eC2, xC2, fun j b hb => by
          match j, hb with
          | 0, hb => cases (Option.some.inj (show some true = some b from hb)); exact iC2_0
          | 1, hb => cases (Option.some.inj (show some false = some b from hb)); exact iC2_1
          | 2, hb => cases (Option.some.inj (show some true = some b from hb)); exact iC2_2
          | j + 3, hb => cases hb⟩
      | k + 3, hk => cases hk
    ev := fun k x hk u => by
      match k, hk with
      | 0, hk => cases hk
      | 1, hk => cases (Option.some.inj (show some ("fraction" : Str) = some x from hk)); rfl
      | 2, hk => cases (Option.some.inj (show some ("no" : Str) = some x from hk)); rfl
      | k + 3, hk => cases hk
    bt := btx
    gcd := gcdx
    cn := fun k x hk => (cnx k x hk).1 }
  have sys : ∀ base : Heap, (∀ q ∈ [(c__law_two_right, t__law_two_right), (c__law_limits_right, t__law_limits_right)], TabB base mg q.1 q.2) → SysOk ⟨PySem.Challenge.rw_figuresproved_k00_whole_fractions.prog, w, K, mg, base⟩ pc f wds "none" prog := fun base TB => {
    at_ := fun k x hk => by
      obtain ⟨st, cdv, N, ps, er, fd, e, D, _⟩ := fx k x hk
      exact ⟨PySem.W.mg_of KX G D.a, D.k⟩
    has := fun k x hk => by
      obtain ⟨st, cdv, N, ps, er, fd, e, D, hb, hc, he⟩ := fx k x hk
      refine ⟨fd, e, defOk_of (S := ⟨PySem.Challenge.rw_figuresproved_k00_whole_fractions.prog, w, K, mg, base⟩) hk D hb hc fun z => ?_⟩
      obtain ⟨c, t, e1, e2, e3, e4⟩ := he z
      exact ⟨c, t, TB _ e2, e1, e3, e4⟩
    kn := fun k => by
      show k < 21 ↔ ∃ x, fnames[k]? = some x
      constructor
      · intro hk
        exact ⟨fnames[k]'hk, List.getElem?_eq_getElem hk⟩
      · rintro ⟨x, hk⟩
        exact (List.getElem?_eq_some_iff.mp hk).1
    bt := btx
    gcd := gcdx
    er := by
      obtain ⟨oc, od, kV, doc, pm, an, ct, osl, l⟩ := D__law_error.l
      have hsc : scOk n_err ps__law_error (defScope (top 29)) = true := by decide +kernel
      exact ⟨f__law_error, defArgs (top 29), defBody (top 29), defScope (top 29), .none, kV, doc, pm, v__law_error, ct, oc, an, od, osl, n_err, "call", PySem.W.mg_of KX G D__law_error.a, D__law_error.k, l, D__law_error.c, .all (bf__law_error kV doc pm an v__law_error ct), sc_of hsc, rfl, by first | exact .inl (by decide +kernel) | exact .inr (.inl (by decide +kernel)), by decide, by decide,
        gives_ok (S := ⟨PySem.Challenge.rw_figuresproved_k00_whole_fractions.prog, w, K, mg, base⟩) (p := pc) (i := 1) (CS := C0) (suiteS := s_err) (x := ("FigureError" : Str)) (e := "e") (hd base) (PySem.W.mg_of KX G aC0) (by decide +kernel) (by decide) (sc_of hsc) rfl (by decide +kernel) (by decide +kernel)⟩
    gc := fun q hq => by
      have hq : q ∈ consts := hq
      simp only [consts, List.mem_cons, List.not_mem_nil, or_false] at hq
      rcases hq with rfl
      · exact ⟨_, .int 1000000, PySem.W.mg_of KX G K_FAR, ⟨_, rfl⟩, fun _ _ _ => rfl⟩
    ra := fun k y hk => by
      obtain ⟨h1, h2, h3, h4, h5⟩ := cnx k y hk
      exact ⟨_, _, _, _, PySem.F.excBase_ValueError, h2, h1, h3, h4, h5⟩ }
  exact law_at (l := PySem.Challenge.rw_figuresproved_k00_whole_fractions) (p := pc) (f := f) (wd := wds) (nw := "none") (pr := prog) (n := 12) (cs := [(c__law_two_right, t__law_two_right), (c__law_limits_right, t__law_limits_right)]) (N := n_law) (sS := s_law) KX G hfa
    (fun q hq => by simp only [List.mem_cons, List.not_mem_nil, or_false] at hq; rcases hq with rfl | rfl <;> first | exact Y _ M__law_two_right | exact Y _ M__law_limits_right)
    (fun q hq => by simp only [List.mem_cons, List.not_mem_nil, or_false] at hq; rcases hq with rfl | rfl <;> first | exact N__law_two_right | exact N__law_limits_right)
    (fun q hq => by simp only [List.mem_cons, List.not_mem_nil, or_false] at hq; rcases hq with rfl | rfl <;> first | exact H__law_two_right | exact H__law_limits_right)
    (fun q hq => by
      have hq : q ∈ [(t__law_two_right, ("_law_two_right" : Str) ++ ".<locals>." ++ "<lambda>"), (t__law_limits_right, ("_law_limits_right" : Str) ++ ".<locals>." ++ "<lambda>")] := hq
      simp only [List.mem_cons, List.not_mem_nil, or_false] at hq
      rcases hq with rfl | rfl
      · exact ⟨c__law_two_right, List.mem_cons_self⟩
      · exact ⟨c__law_limits_right, (List.mem_cons_of_mem _ List.mem_cons_self)⟩)
    sys D_law bf_law rfl (by decide +kernel) rfl rfl (by decide +kernel) (by decide +kernel) (by decide +kernel) (by decide +kernel) D__law_cup bf__law_cup (by decide +kernel) (by decide +kernel) (by decide +kernel) (by decide +kernel) (by decide +kernel) (by decide +kernel) (btx _ (by simp [bts])) (btx _ (by simp [bts])) (btx _ (by simp [bts])) rfl hplain
theorem raw_ {w : World} {K : PySem.W.Frag} {mg : Str → Option Value} {fa : Addr} {h : Heap} {ts : List Addr} (KX : K.In h) (G : h.Ns mainGlobals mg) (hfa : mg "law" = some (.ref fa)) (Y : ∀ P ∈ ts, h.get? P = some { cls := .none, data := .fields #[] })
  {f_is_whole f_is_tuple_of f_is_fraction f_is_portion f_need_fraction f_lowest f_plus f_times f_over f_fraction_sum f_fraction_product f_fraction_by f__law_roll f__law_some f__law_sort f__law_like f__law_divisor f__law_plain f__law_fraction f__law_two_right f__law_limits_right f__law_cup f__law_error f_law : Addr} {v_is_whole v_is_tuple_of v_is_fraction v_is_portion v_need_fraction v_lowest v_plus v_times v_over v_fraction_sum v_fraction_product v_fraction_by v__law_roll v__law_some v__law_sort v__law_like v__law_divisor v__law_plain v__law_fraction v__law_cup v__law_error v_law : Value} {c__law_two_right t__law_two_right c__law_limits_right t__law_limits_right C0 C1 C2 : Addr}
  {o_is_whole kV_is_whole dc_is_whole pm_is_whole ct_is_whole : Value} {od_is_whole an_is_whole : Option Addr} {sl_is_whole : Array (Option Value)}
  (a_is_whole : PySem.W.nsIn K mainGlobals ("is_whole" : Str) = some (some (.ref f_is_whole))) (l_is_whole : K.lookup f_is_whole = some ⟨o_is_whole, od_is_whole, .func (PySem.W.fnOf ("is_whole" : Str) ("is_whole" : Str) (defArgs (top 6)) (defBody (top 6)) (defScope (top 6)) .none kV_is_whole dc_is_whole pm_is_whole an_is_whole v_is_whole ct_is_whole), sl_is_whole⟩) (e_is_whole : PySem.W.codeIn K v_is_whole ("is_whole" : Str) = true) (k_is_whole : PySem.W.keepIn K (.ref f_is_whole) = true)
  {o_is_tuple_of kV_is_tuple_of dc_is_tuple_of pm_is_tuple_of ct_is_tuple_of : Value} {od_is_tuple_of an_is_tuple_of : Option Addr} {sl_is_tuple_of : Array (Option Value)}
  (a_is_tuple_of : PySem.W.nsIn K mainGlobals ("is_tuple_of" : Str) = some (some (.ref f_is_tuple_of))) (l_is_tuple_of : K.lookup f_is_tuple_of = some ⟨o_is_tuple_of, od_is_tuple_of, .func (PySem.W.fnOf ("is_tuple_of" : Str) ("is_tuple_of" : Str) (defArgs (top 7)) (defBody (top 7)) (defScope (top 7)) .none kV_is_tuple_of dc_is_tuple_of pm_is_tuple_of an_is_tuple_of v_is_tuple_of ct_is_tuple_of), sl_is_tuple_of⟩) (e_is_tuple_of : PySem.W.codeIn K v_is_tuple_of ("is_tuple_of" : Str) = true) (k_is_tuple_of : PySem.W.keepIn K (.ref f_is_tuple_of) = true)
  {o_is_fraction kV_is_fraction dc_is_fraction pm_is_fraction ct_is_fraction : Value} {od_is_fraction an_is_fraction : Option Addr} {sl_is_fraction : Array (Option Value)}
  (a_is_fraction : PySem.W.nsIn K mainGlobals ("is_fraction" : Str) = some (some (.ref f_is_fraction))) (l_is_fraction : K.lookup f_is_fraction = some ⟨o_is_fraction, od_is_fraction, .func (PySem.W.fnOf ("is_fraction" : Str) ("is_fraction" : Str) (defArgs (top 10)) (defBody (top 10)) (defScope (top 10)) .none kV_is_fraction dc_is_fraction pm_is_fraction an_is_fraction v_is_fraction ct_is_fraction), sl_is_fraction⟩) (e_is_fraction : PySem.W.codeIn K v_is_fraction ("is_fraction" : Str) = true) (k_is_fraction : PySem.W.keepIn K (.ref f_is_fraction) = true)
  {o_is_portion kV_is_portion dc_is_portion pm_is_portion ct_is_portion : Value} {od_is_portion an_is_portion : Option Addr} {sl_is_portion : Array (Option Value)}
  (a_is_portion : PySem.W.nsIn K mainGlobals ("is_portion" : Str) = some (some (.ref f_is_portion))) (l_is_portion : K.lookup f_is_portion = some ⟨o_is_portion, od_is_portion, .func (PySem.W.fnOf ("is_portion" : Str) ("is_portion" : Str) (defArgs (top 11)) (defBody (top 11)) (defScope (top 11)) .none kV_is_portion dc_is_portion pm_is_portion an_is_portion v_is_portion ct_is_portion), sl_is_portion⟩) (e_is_portion : PySem.W.codeIn K v_is_portion ("is_portion" : Str) = true) (k_is_portion : PySem.W.keepIn K (.ref f_is_portion) = true)
  {o_need_fraction kV_need_fraction dc_need_fraction pm_need_fraction ct_need_fraction : Value} {od_need_fraction an_need_fraction : Option Addr} {sl_need_fraction : Array (Option Value)}
  (a_need_fraction : PySem.W.nsIn K mainGlobals ("need_fraction" : Str) = some (some (.ref f_need_fraction))) (l_need_fraction : K.lookup f_need_fraction = some ⟨o_need_fraction, od_need_fraction, .func (PySem.W.fnOf ("need_fraction" : Str) ("need_fraction" : Str) (defArgs (top 12)) (defBody (top 12)) (defScope (top 12)) .none kV_need_fraction dc_need_fraction pm_need_fraction an_need_fraction v_need_fraction ct_need_fraction), sl_need_fraction⟩) (e_need_fraction : PySem.W.codeIn K v_need_fraction ("need_fraction" : Str) = true) (k_need_fraction : PySem.W.keepIn K (.ref f_need_fraction) = true)
  {o_lowest kV_lowest dc_lowest pm_lowest ct_lowest : Value} {od_lowest an_lowest : Option Addr} {sl_lowest : Array (Option Value)}
  (a_lowest : PySem.W.nsIn K mainGlobals ("lowest" : Str) = some (some (.ref f_lowest))) (l_lowest : K.lookup f_lowest = some ⟨o_lowest, od_lowest, .func (PySem.W.fnOf ("lowest" : Str) ("lowest" : Str) (defArgs (top 13)) (defBody (top 13)) (defScope (top 13)) .none kV_lowest dc_lowest pm_lowest an_lowest v_lowest ct_lowest), sl_lowest⟩) (e_lowest : PySem.W.codeIn K v_lowest ("lowest" : Str) = true) (k_lowest : PySem.W.keepIn K (.ref f_lowest) = true)
  {o_plus kV_plus dc_plus pm_plus ct_plus : Value} {od_plus an_plus : Option Addr} {sl_plus : Array (Option Value)}
  (a_plus : PySem.W.nsIn K mainGlobals ("plus" : Str) = some (some (.ref f_plus))) (l_plus : K.lookup f_plus = some ⟨o_plus, od_plus, .func (PySem.W.fnOf ("plus" : Str) ("plus" : Str) (defArgs (top 14)) (defBody (top 14)) (defScope (top 14)) .none kV_plus dc_plus pm_plus an_plus v_plus ct_plus), sl_plus⟩) (e_plus : PySem.W.codeIn K v_plus ("plus" : Str) = true) (k_plus : PySem.W.keepIn K (.ref f_plus) = true)
  {o_times kV_times dc_times pm_times ct_times : Value} {od_times an_times : Option Addr} {sl_times : Array (Option Value)}
  (a_times : PySem.W.nsIn K mainGlobals ("times" : Str) = some (some (.ref f_times))) (l_times : K.lookup f_times = some ⟨o_times, od_times, .func (PySem.W.fnOf ("times" : Str) ("times" : Str) (defArgs (top 15)) (defBody (top 15)) (defScope (top 15)) .none kV_times dc_times pm_times an_times v_times ct_times), sl_times⟩) (e_times : PySem.W.codeIn K v_times ("times" : Str) = true) (k_times : PySem.W.keepIn K (.ref f_times) = true)
  {o_over kV_over dc_over pm_over ct_over : Value} {od_over an_over : Option Addr} {sl_over : Array (Option Value)}
  (a_over : PySem.W.nsIn K mainGlobals ("over" : Str) = some (some (.ref f_over))) (l_over : K.lookup f_over = some ⟨o_over, od_over, .func (PySem.W.fnOf ("over" : Str) ("over" : Str) (defArgs (top 16)) (defBody (top 16)) (defScope (top 16)) .none kV_over dc_over pm_over an_over v_over ct_over), sl_over⟩) (e_over : PySem.W.codeIn K v_over ("over" : Str) = true) (k_over : PySem.W.keepIn K (.ref f_over) = true)
  {o_fraction_sum kV_fraction_sum dc_fraction_sum pm_fraction_sum ct_fraction_sum : Value} {od_fraction_sum an_fraction_sum : Option Addr} {sl_fraction_sum : Array (Option Value)}
  (a_fraction_sum : PySem.W.nsIn K mainGlobals ("fraction_sum" : Str) = some (some (.ref f_fraction_sum))) (l_fraction_sum : K.lookup f_fraction_sum = some ⟨o_fraction_sum, od_fraction_sum, .func (PySem.W.fnOf ("fraction_sum" : Str) ("fraction_sum" : Str) (defArgs (top 17)) (defBody (top 17)) (defScope (top 17)) .none kV_fraction_sum dc_fraction_sum pm_fraction_sum an_fraction_sum v_fraction_sum ct_fraction_sum), sl_fraction_sum⟩) (e_fraction_sum : PySem.W.codeIn K v_fraction_sum ("fraction_sum" : Str) = true) (k_fraction_sum : PySem.W.keepIn K (.ref f_fraction_sum) = true)
  {o_fraction_product kV_fraction_product dc_fraction_product pm_fraction_product ct_fraction_product : Value} {od_fraction_product an_fraction_product : Option Addr} {sl_fraction_product : Array (Option Value)}
  (a_fraction_product : PySem.W.nsIn K mainGlobals ("fraction_product" : Str) = some (some (.ref f_fraction_product))) (l_fraction_product : K.lookup f_fraction_product = some ⟨o_fraction_product, od_fraction_product, .func (PySem.W.fnOf ("fraction_product" : Str) ("fraction_product" : Str) (defArgs (top 18)) (defBody (top 18)) (defScope (top 18)) .none kV_fraction_product dc_fraction_product pm_fraction_product an_fraction_product v_fraction_product ct_fraction_product), sl_fraction_product⟩) (e_fraction_product : PySem.W.codeIn K v_fraction_product ("fraction_product" : Str) = true) (k_fraction_product : PySem.W.keepIn K (.ref f_fraction_product) = true)
  {o_fraction_by kV_fraction_by dc_fraction_by pm_fraction_by ct_fraction_by : Value} {od_fraction_by an_fraction_by : Option Addr} {sl_fraction_by : Array (Option Value)}
  (a_fraction_by : PySem.W.nsIn K mainGlobals ("fraction_by" : Str) = some (some (.ref f_fraction_by))) (l_fraction_by : K.lookup f_fraction_by = some ⟨o_fraction_by, od_fraction_by, .func (PySem.W.fnOf ("fraction_by" : Str) ("fraction_by" : Str) (defArgs (top 19)) (defBody (top 19)) (defScope (top 19)) .none kV_fraction_by dc_fraction_by pm_fraction_by an_fraction_by v_fraction_by ct_fraction_by), sl_fraction_by⟩) (e_fraction_by : PySem.W.codeIn K v_fraction_by ("fraction_by" : Str) = true) (k_fraction_by : PySem.W.keepIn K (.ref f_fraction_by) = true)
  {o__law_roll kV__law_roll dc__law_roll pm__law_roll ct__law_roll : Value} {od__law_roll an__law_roll : Option Addr} {sl__law_roll : Array (Option Value)}
  (a__law_roll : PySem.W.nsIn K mainGlobals ("_law_roll" : Str) = some (some (.ref f__law_roll))) (l__law_roll : K.lookup f__law_roll = some ⟨o__law_roll, od__law_roll, .func (PySem.W.fnOf ("_law_roll" : Str) ("_law_roll" : Str) (defArgs (top 22)) (defBody (top 22)) (defScope (top 22)) .none kV__law_roll dc__law_roll pm__law_roll an__law_roll v__law_roll ct__law_roll), sl__law_roll⟩) (e__law_roll : PySem.W.codeIn K v__law_roll ("_law_roll" : Str) = true) (k__law_roll : PySem.W.keepIn K (.ref f__law_roll) = true)
  {o__law_some kV__law_some dc__law_some pm__law_some ct__law_some : Value} {od__law_some an__law_some : Option Addr} {sl__law_some : Array (Option Value)}
  (a__law_some : PySem.W.nsIn K mainGlobals ("_law_some" : Str) = some (some (.ref f__law_some))) (l__law_some : K.lookup f__law_some = some ⟨o__law_some, od__law_some, .func (PySem.W.fnOf ("_law_some" : Str) ("_law_some" : Str) (defArgs (top 23)) (defBody (top 23)) (defScope (top 23)) .none kV__law_some dc__law_some pm__law_some an__law_some v__law_some ct__law_some), sl__law_some⟩) (e__law_some : PySem.W.codeIn K v__law_some ("_law_some" : Str) = true) (k__law_some : PySem.W.keepIn K (.ref f__law_some) = true)
  {o__law_sort kV__law_sort dc__law_sort pm__law_sort ct__law_sort : Value} {od__law_sort an__law_sort : Option Addr} {sl__law_sort : Array (Option Value)}
  (a__law_sort : PySem.W.nsIn K mainGlobals ("_law_sort" : Str) = some (some (.ref f__law_sort))) (l__law_sort : K.lookup f__law_sort = some ⟨o__law_sort, od__law_sort, .func (PySem.W.fnOf ("_law_sort" : Str) ("_law_sort" : Str) (defArgs (top 24)) (defBody (top 24)) (defScope (top 24)) .none kV__law_sort dc__law_sort pm__law_sort an__law_sort v__law_sort ct__law_sort), sl__law_sort⟩) (e__law_sort : PySem.W.codeIn K v__law_sort ("_law_sort" : Str) = true) (k__law_sort : PySem.W.keepIn K (.ref f__law_sort) = true)
  {o__law_like kV__law_like dc__law_like pm__law_like ct__law_like : Value} {od__law_like an__law_like : Option Addr} {sl__law_like : Array (Option Value)}
  (a__law_like : PySem.W.nsIn K mainGlobals ("_law_like" : Str) = some (some (.ref f__law_like))) (l__law_like : K.lookup f__law_like = some ⟨o__law_like, od__law_like, .func (PySem.W.fnOf ("_law_like" : Str) ("_law_like" : Str) (defArgs (top 25)) (defBody (top 25)) (defScope (top 25)) .none kV__law_like dc__law_like pm__law_like an__law_like v__law_like ct__law_like), sl__law_like⟩) (e__law_like : PySem.W.codeIn K v__law_like ("_law_like" : Str) = true) (k__law_like : PySem.W.keepIn K (.ref f__law_like) = true)
  {o__law_divisor kV__law_divisor dc__law_divisor pm__law_divisor ct__law_divisor : Value} {od__law_divisor an__law_divisor : Option Addr} {sl__law_divisor : Array (Option Value)}
  (a__law_divisor : PySem.W.nsIn K mainGlobals ("_law_divisor" : Str) = some (some (.ref f__law_divisor))) (l__law_divisor : K.lookup f__law_divisor = some ⟨o__law_divisor, od__law_divisor, .func (PySem.W.fnOf ("_law_divisor" : Str) ("_law_divisor" : Str) (defArgs (top 26)) (defBody (top 26)) (defScope (top 26)) .none kV__law_divisor dc__law_divisor pm__law_divisor an__law_divisor v__law_divisor ct__law_divisor), sl__law_divisor⟩) (e__law_divisor : PySem.W.codeIn K v__law_divisor ("_law_divisor" : Str) = true) (k__law_divisor : PySem.W.keepIn K (.ref f__law_divisor) = true)
  {o__law_plain kV__law_plain dc__law_plain pm__law_plain ct__law_plain : Value} {od__law_plain an__law_plain : Option Addr} {sl__law_plain : Array (Option Value)}
  (a__law_plain : PySem.W.nsIn K mainGlobals ("_law_plain" : Str) = some (some (.ref f__law_plain))) (l__law_plain : K.lookup f__law_plain = some ⟨o__law_plain, od__law_plain, .func (PySem.W.fnOf ("_law_plain" : Str) ("_law_plain" : Str) (defArgs (top 27)) (defBody (top 27)) (defScope (top 27)) .none kV__law_plain dc__law_plain pm__law_plain an__law_plain v__law_plain ct__law_plain), sl__law_plain⟩) (e__law_plain : PySem.W.codeIn K v__law_plain ("_law_plain" : Str) = true) (k__law_plain : PySem.W.keepIn K (.ref f__law_plain) = true)
  {o__law_fraction kV__law_fraction dc__law_fraction pm__law_fraction ct__law_fraction : Value} {od__law_fraction an__law_fraction : Option Addr} {sl__law_fraction : Array (Option Value)}
  (a__law_fraction : PySem.W.nsIn K mainGlobals ("_law_fraction" : Str) = some (some (.ref f__law_fraction))) (l__law_fraction : K.lookup f__law_fraction = some ⟨o__law_fraction, od__law_fraction, .func (PySem.W.fnOf ("_law_fraction" : Str) ("_law_fraction" : Str) (defArgs (top 28)) (defBody (top 28)) (defScope (top 28)) .none kV__law_fraction dc__law_fraction pm__law_fraction an__law_fraction v__law_fraction ct__law_fraction), sl__law_fraction⟩) (e__law_fraction : PySem.W.codeIn K v__law_fraction ("_law_fraction" : Str) = true) (k__law_fraction : PySem.W.keepIn K (.ref f__law_fraction) = true)
  {o__law_two_right kV__law_two_right dc__law_two_right pm__law_two_right ct__law_two_right : Value} {od__law_two_right an__law_two_right : Option Addr} {sl__law_two_right : Array (Option Value)}
  (a__law_two_right : PySem.W.nsIn K mainGlobals ("_law_two_right" : Str) = some (some (.ref f__law_two_right))) (l__law_two_right : K.lookup f__law_two_right = some ⟨o__law_two_right, od__law_two_right, .func (PySem.W.fnOf ("_law_two_right" : Str) ("_law_two_right" : Str) (defArgs (top 30)) (defBody (top 30)) (defScope (top 30)) .none kV__law_two_right dc__law_two_right pm__law_two_right an__law_two_right (.ref c__law_two_right) ct__law_two_right), sl__law_two_right⟩) (e__law_two_right : PySem.W.codeIn K (.ref c__law_two_right) ("_law_two_right" : Str) = true) (k__law_two_right : PySem.W.keepIn K (.ref f__law_two_right) = true)
  {o__law_limits_right kV__law_limits_right dc__law_limits_right pm__law_limits_right ct__law_limits_right : Value} {od__law_limits_right an__law_limits_right : Option Addr} {sl__law_limits_right : Array (Option Value)}
  (a__law_limits_right : PySem.W.nsIn K mainGlobals ("_law_limits_right" : Str) = some (some (.ref f__law_limits_right))) (l__law_limits_right : K.lookup f__law_limits_right = some ⟨o__law_limits_right, od__law_limits_right, .func (PySem.W.fnOf ("_law_limits_right" : Str) ("_law_limits_right" : Str) (defArgs (top 31)) (defBody (top 31)) (defScope (top 31)) .none kV__law_limits_right dc__law_limits_right pm__law_limits_right an__law_limits_right (.ref c__law_limits_right) ct__law_limits_right), sl__law_limits_right⟩) (e__law_limits_right : PySem.W.codeIn K (.ref c__law_limits_right) ("_law_limits_right" : Str) = true) (k__law_limits_right : PySem.W.keepIn K (.ref f__law_limits_right) = true)
  {o__law_cup kV__law_cup dc__law_cup pm__law_cup ct__law_cup : Value} {od__law_cup an__law_cup : Option Addr} {sl__law_cup : Array (Option Value)}
  (a__law_cup : PySem.W.nsIn K mainGlobals ("_law_cup" : Str) = some (some (.ref f__law_cup))) (l__law_cup : K.lookup f__law_cup = some ⟨o__law_cup, od__law_cup, .func (PySem.W.fnOf ("_law_cup" : Str) ("_law_cup" : Str) (defArgs (top 21)) (defBody (top 21)) (defScope (top 21)) .none kV__law_cup dc__law_cup pm__law_cup an__law_cup v__law_cup ct__law_cup), sl__law_cup⟩) (e__law_cup : PySem.W.codeIn K v__law_cup ("_law_cup" : Str) = true) (k__law_cup : PySem.W.keepIn K (.ref f__law_cup) = true)
  {o__law_error kV__law_error dc__law_error pm__law_error ct__law_error : Value} {od__law_error an__law_error : Option Addr} {sl__law_error : Array (Option Value)}
  (a__law_error : PySem.W.nsIn K mainGlobals ("_law_error" : Str) = some (some (.ref f__law_error))) (l__law_error : K.lookup f__law_error = some ⟨o__law_error, od__law_error, .func (PySem.W.fnOf ("_law_error" : Str) ("_law_error" : Str) (defArgs (top 29)) (defBody (top 29)) (defScope (top 29)) .none kV__law_error dc__law_error pm__law_error an__law_error v__law_error ct__law_error), sl__law_error⟩) (e__law_error : PySem.W.codeIn K v__law_error ("_law_error" : Str) = true) (k__law_error : PySem.W.keepIn K (.ref f__law_error) = true)
  {o_law kV_law dc_law pm_law ct_law : Value} {od_law an_law : Option Addr} {sl_law : Array (Option Value)}
  (a_law : PySem.W.nsIn K mainGlobals ("law" : Str) = some (some (.ref f_law))) (l_law : K.lookup f_law = some ⟨o_law, od_law, .func (PySem.W.fnOf ("law" : Str) ("law" : Str) (defArgs (top 32)) (defBody (top 32)) (defScope (top 32)) .none kV_law dc_law pm_law an_law v_law ct_law), sl_law⟩) (e_law : PySem.W.codeIn K v_law ("law" : Str) = true) (k_law : PySem.W.keepIn K (.ref f_law) = true)
  (Z__law_two_right : PySem.W.codeHdIn K c__law_two_right t__law_two_right = true ∧ t__law_two_right ∈ ts ∧ K.lookup t__law_two_right = none)
  (Z__law_limits_right : PySem.W.codeHdIn K c__law_limits_right t__law_limits_right = true ∧ t__law_limits_right ∈ ts ∧ K.lookup t__law_limits_right = none)
  (Q_1_0 : t__law_limits_right ≠ t__law_two_right)
  (aC0 : PySem.W.nsIn K mainGlobals ("FigureError" : Str) = some (some (.ref C0))) (kC0 : PySem.W.keepIn K (.ref C0) = true) (qC0 : PySem.W.excIn K C0 [.type "ValueError", .type "Exception", .type "BaseException", .type "object"] "ValueError.__new__" = true) (sC0 : PySem.W.subIn K (.ref C0) (.type "BaseException") = some true) (yC0 : PySem.W.typeIn K (.ref C0) = some (.type "type"))
  (aC1 : PySem.W.nsIn K mainGlobals ("InvalidPortion" : Str) = some (some (.ref C1))) (kC1 : PySem.W.keepIn K (.ref C1) = true) (qC1 : PySem.W.excIn K C1 [.type "ValueError", .type "Exception", .type "BaseException", .type "object"] "ValueError.__new__" = true) (sC1 : PySem.W.subIn K (.ref C1) (.type "BaseException") = some true) (yC1 : PySem.W.typeIn K (.ref C1) = some (.type "type"))
  (aC2 : PySem.W.nsIn K mainGlobals ("NotFound" : Str) = some (some (.ref C2))) (kC2 : PySem.W.keepIn K (.ref C2) = true) (qC2 : PySem.W.excIn K C2 [.type "ValueError", .type "Exception", .type "BaseException", .type "object"] "ValueError.__new__" = true) (sC2 : PySem.W.subIn K (.ref C2) (.type "BaseException") = some true) (yC2 : PySem.W.typeIn K (.ref C2) = some (.type "type"))
  (eC1 : PySem.W.exmOne K (.ref C1) (.ref C0) = some true) (x0C1 : PySem.W.findIn K (.ref C1) "__getattribute__" = some (some (.builtin "BaseException.__getattribute__"))) (x1C1 : PySem.W.findIn K (.ref C1) "__getattr__" = some none) (x2C1 : PySem.W.hasDictIn K C1 = true) (x3C1 : PySem.W.findIn K (.ref C1) "__class__" = some (some (.builtin "object.__class__"))) (x4C1 : PySem.W.mroIn K C1 (.type "object") = some true) (iC1_0 : PySem.W.kitOne K (.ref C1) (.ref C0) = some true) (iC1_1 : PySem.W.kitOne K (.ref C1) (.ref C1) = some true) (iC1_2 : PySem.W.kitOne K (.ref C1) (.ref C2) = some false)
  (eC2 : PySem.W.exmOne K (.ref C2) (.ref C0) = some true) (x0C2 : PySem.W.findIn K (.ref C2) "__getattribute__" = some (some (.builtin "BaseException.__getattribute__"))) (x1C2 : PySem.W.findIn K (.ref C2) "__getattr__" = some none) (x2C2 : PySem.W.hasDictIn K C2 = true) (x3C2 : PySem.W.findIn K (.ref C2) "__class__" = some (some (.builtin "object.__class__"))) (x4C2 : PySem.W.mroIn K C2 (.type "object") = some true) (iC2_0 : PySem.W.kitOne K (.ref C2) (.ref C0) = some true) (iC2_1 : PySem.W.kitOne K (.ref C2) (.ref C1) = some false) (iC2_2 : PySem.W.kitOne K (.ref C2) (.ref C2) = some true)
  (y1 : PySem.W.specialIn K (.builtin "object.__class__") "__get__" = some (some (.builtin "getset_descriptor.__get__"))) (y2 : PySem.W.takesIn K (.builtin "object.__class__") = some true)
  (b_isinstance : PySem.W.nsIn K mainGlobals ("isinstance" : Str) = some none)
  (b_int : PySem.W.nsIn K mainGlobals ("int" : Str) = some none)
  (b_bool : PySem.W.nsIn K mainGlobals ("bool" : Str) = some none)
  (b_str : PySem.W.nsIn K mainGlobals ("str" : Str) = some none)
  (b_tuple : PySem.W.nsIn K mainGlobals ("tuple" : Str) = some none)
  (b_list : PySem.W.nsIn K mainGlobals ("list" : Str) = some none)
  (b_len : PySem.W.nsIn K mainGlobals ("len" : Str) = some none)
  (b_abs : PySem.W.nsIn K mainGlobals ("abs" : Str) = some none)
  (b_all : PySem.W.nsIn K mainGlobals ("all" : Str) = some none)
  (b_any : PySem.W.nsIn K mainGlobals ("any" : Str) = some none)
  (b_sum : PySem.W.nsIn K mainGlobals ("sum" : Str) = some none)
  (b_range : PySem.W.nsIn K mainGlobals ("range" : Str) = some none)
  (b_zip : PySem.W.nsIn K mainGlobals ("zip" : Str) = some none)
  (b_gcd : PySem.W.nsIn K mainGlobals "gcd" = some (some (.builtin "math.gcd")))
  {k_FAR : Tok} (K_FAR : PySem.W.nsIn K mainGlobals ("FAR" : Str) = some (some (.int 1000000 k_FAR)))
  (hplain : ∀ ns : List Int, ns.length ≤ 63 → ∃ u', evSs wds "none" (run wds "none" prog 12) s_law (lawEnv n_law.length) (cup0 ns) = .ret (.bl true) u') :
  LawAtS PySem.Challenge.rw_figuresproved_k00_whole_fractions w K (L2N.CX PySem.Challenge.rw_figuresproved_k00_whole_fractions.prog w) (3 * 12 + 3) 63 "script" mg fa h :=
  at_ KX G hfa Y (DF.mk' a_is_whole l_is_whole e_is_whole k_is_whole) (DF.mk' a_is_tuple_of l_is_tuple_of e_is_tuple_of k_is_tuple_of) (DF.mk' a_is_fraction l_is_fraction e_is_fraction k_is_fraction) (DF.mk' a_is_portion l_is_portion e_is_portion k_is_portion) (DF.mk' a_need_fraction l_need_fraction e_need_fraction k_need_fraction) (DF.mk' a_lowest l_lowest e_lowest k_lowest) (DF.mk' a_plus l_plus e_plus k_plus) (DF.mk' a_times l_times e_times k_times) (DF.mk' a_over l_over e_over k_over) (DF.mk' a_fraction_sum l_fraction_sum e_fraction_sum k_fraction_sum) (DF.mk' a_fraction_product l_fraction_product e_fraction_product k_fraction_product) (DF.mk' a_fraction_by l_fraction_by e_fraction_by k_fraction_by) (DF.mk' a__law_roll l__law_roll e__law_roll k__law_roll) (DF.mk' a__law_some l__law_some e__law_some k__law_some) (DF.mk' a__law_sort l__law_sort e__law_sort k__law_sort) (DF.mk' a__law_like l__law_like e__law_like k__law_like) (DF.mk' a__law_divisor l__law_divisor e__law_divisor k__law_divisor) (DF.mk' a__law_plain l__law_plain e__law_plain k__law_plain) (DF.mk' a__law_fraction l__law_fraction e__law_fraction k__law_fraction) (DF.mk' a__law_two_right l__law_two_right e__law_two_right k__law_two_right) (DF.mk' a__law_limits_right l__law_limits_right e__law_limits_right k__law_limits_right) (DF.mk' a__law_cup l__law_cup e__law_cup k__law_cup) (DF.mk' a__law_error l__law_error e__law_error k__law_error) (DF.mk' a_law l_law e_law k_law) Z__law_two_right.1 Z__law_two_right.2.2 Z__law_two_right.2.1 Z__law_limits_right.1 Z__law_limits_right.2.2 Z__law_limits_right.2.1 Q_1_0 aC0 kC0 qC0 sC0 yC0 aC1 kC1 qC1 sC1 yC1 aC2 kC2 qC2 sC2 yC2 eC1 ⟨x0C1, x1C1, sC1, x2C1, x3C1, y1, y2, x4C1⟩ iC1_0 iC1_1 iC1_2 eC2 ⟨x0C2, x1C2, sC2, x2C2, x3C2, y1, y2, x4C2⟩ iC2_0 iC2_1 iC2_2 b_isinstance b_int b_bool b_str b_tuple b_list b_len b_abs b_all b_any b_sum b_range b_zip b_gcd K_FAR hplain
end K00

namespace K00
open Ev PySem
abbrev R (n : Nat) := Ev.run wds "none" prog n
def SR.fin : SR → Re D
  | .next _ u1 => .ok .non u1
  | .ret d u1 => .ok d u1
  | .exc j u1 => .exc j u1
  | .bad => .bad
theorem run_succ {wd : Words} {nw : Str} {P : List FD} {n k : Nat} {ds : List D} {u : Cup} (fd : FD) (h : P[k]? = some fd) (hl : ds.length = fd.np) : Ev.run wd nw P (n + 1) k ds u = SR.fin (evSs wd nw (Ev.run wd nw P n) fd.body (Ev.start ds fd.nn) u) := by
  simp only [Ev.run, h, hl, if_true]
  cases evSs wd nw (Ev.run wd nw P n) fd.body (Ev.start ds fd.nn) u <;> rfl
theorem roll_ok {n : Nat} {m : Int} {u : Cup} (hm : 0 < m) (hb : m.natAbs.log2 < 9000) : ∃ z u', R (n + 1) 12 [.cup, .int m] u = .ok (.int z) u' ∧ 0 ≤ z ∧ z < m := by
  obtain ⟨u1, u2⟩ := u
  have l47 : Nat.log2 47 < 9000 := by decide +kernel
  by_cases h : 0 < u1
  · refine ⟨u1 % m, (u1 / m, u2), ?_, Int.emod_nonneg _ (by omega), Int.emod_lt_of_pos _ hm⟩
    refine (run_succ d_law_roll rfl rfl).trans ?_
    simp [d_law_roll, evSs, evS, evE, evL, ofRe, Re.bind, Ev.start, ixR, ixC, L2.atI, L2.ixN, lift, cmpV, binV, biV, h, hm, hb, after, D.flat, Ex.fresh, D.ownable, mulOk, SR.fin]
  · refine ⟨(u2 * 137 + 2441) % 99833 / 47 % m, (u1, (u2 * 137 + 2441) % 99833), ?_, Int.emod_nonneg _ (by omega), Int.emod_lt_of_pos _ hm⟩
    refine (run_succ d_law_roll rfl rfl).trans ?_
    simp [d_law_roll, evSs, evS, evE, evL, ofRe, Re.bind, Ev.start, ixR, ixC, L2.atI, L2.ixN, lift, cmpV, binV, biV, h, hm, hb, after, D.flat, Ex.fresh, D.ownable, mulOk, SR.fin, l47]
theorem log9 {z : Int} {b : Nat} (h : z.natAbs < 2 ^ b) (h0 : 0 < b) (hb : b ≤ 9000) : z.natAbs.log2 < 9000 := Nat.lt_of_lt_of_le (PySem.Flt.log2_lt_of h0 h) hb
theorem atI_get {xs : List D} {z : Int} (h0 : 0 ≤ z) (h1 : z < xs.length) : ∃ d, L2.atI xs z = some d ∧ d ∈ xs := by
  obtain ⟨k, rfl⟩ := Int.eq_ofNat_of_zero_le h0
  have hk : k < xs.length := by omega
  refine ⟨xs[k], ?_, List.getElem_mem hk⟩
  simp [L2.atI, L2.ixN, hk]
theorem some_ok {n : Nat} {xs : List Int} {u : Cup} (h0 : 0 < xs.length) (h1 : xs.length < 1000) : ∃ z u', R (n + 2) 13 [.cup, .lst (xs.map .int)] u = .ok (.int z) u' ∧ z ∈ xs := by
  obtain ⟨z, u', e, z0, z1⟩ := roll_ok (n := n) (m := (xs.length : Int)) (u := u) (by omega) (log9 (b := 10) (by omega) (by decide) (by decide))
  obtain ⟨d, e1, e2⟩ := atI_get (xs := xs.map D.int) z0 (by simpa using z1)
  obtain ⟨y, hy, rfl⟩ := List.mem_map.mp e2
  refine ⟨y, u', ?_, hy⟩
  refine (run_succ d_law_some rfl rfl).trans ?_
  simp only [R] at e
  simp [d_law_some, evSs, evS, evE, evL, ofRe, Re.bind, Ev.start, ixR, ixV, lift, biV, e, e1, after, D.flat, Ex.fresh, D.ownable, SR.fin]
theorem eqI (i j : Int) : D.eq (.int i) (.int j) = some (i == j) := rfl
theorem eqB (i j : Bool) : D.eq (.bl i) (.bl j) = some (i == j) := by cases i <;> cases j <;> rfl
theorem eqNil : D.eq (.lst []) (.lst []) = some true := rfl
/-! ### the greatest common divisor -/
abbrev dBody : List Sx := match d_law_divisor.body with
  | .for_ _ _ b :: _ => b
  | _ => []
abbrev dEnv (a b : Nat) (t : Sl) : En := [some (false, .int a), some (false, .int b), t]
theorem div_turn {n : Nat} {a b : Nat} {t : Sl} {x : D} {u : Cup} : turnS wds "none" (R n) (.n 2) dBody x (dEnv a b t) u = if b = 0 then .ret (.int a) u else .next (dEnv b (a % b) (some (false, x))) u := by
  by_cases h : b = 0
  · subst h
    simp [turnS, Tg.put, dBody, d_law_divisor, evSs, evS, evE, evL, ofRe, Re.bind, lift, cmpV, eqI]
  · have hb' : 0 < b := by omega
    have e0 : ((b : Int) == 0) = false := by
      rw [beq_eq_false_iff_ne]
      omega
    simp [turnS, Tg.put, dBody, d_law_divisor, evSs, evS, evE, evL, ofRe, Re.bind, lift, cmpV, eqI, e0, h, hb', binV, setPar, D.flat, Ex.fresh, D.ownable]
theorem div_loop {n : Nat} {u : Cup} : ∀ (k : Nat) (a b : Nat) (t : Sl) (l : List D), b < 2 ^ k → 2 * k + 1 ≤ l.length → forLoop (turnS wds "none" (R n) (.n 2) dBody) l (dEnv a b t) u = .ret (.int (Nat.gcd a b)) u
  | k, a, b, t, [], _, hl => by simp at hl
  | 0, a, b, t, x :: l, hb, hl => by
    have : b = 0 := by omega
    subst this
    simp only [forLoop, div_turn, if_true, Nat.gcd_zero_right]
  | k + 1, a, b, t, x :: l, hb, hl => by
    simp only [forLoop, div_turn]
    by_cases h0 : b = 0
    · subst h0
      simp
    · rw [if_neg h0]
      simp only
      cases l with
      | nil => simp at hl
      | cons y l =>
        simp only [forLoop, div_turn]
        by_cases h1 : a % b = 0
        · rw [if_pos h1]
          simp only
          rw [Nat.gcd_comm, Nat.gcd_rec, h1, Nat.gcd_zero_left]
        · rw [if_neg h1]
          simp only
          have hm : a % b < b := Nat.mod_lt _ (by omega)
          have h2 : b % (a % b) < 2 ^ k := by
            have h3 : b % (a % b) < a % b := Nat.mod_lt _ (by omega)
            have h4 : b % (a % b) + a % b ≤ b := by
              have := Nat.mod_add_div b (a % b)
              have h5 : 1 ≤ b / (a % b) := (Nat.le_div_iff_mul_le (by omega)).mpr (by omega)
              have h6 : (a % b) * 1 ≤ (a % b) * (b / (a % b)) := Nat.mul_le_mul_left _ h5
              omega
            have : 2 ^ (k + 1) = 2 * 2 ^ k := by rw [Nat.pow_succ, Nat.mul_comm]
            omega
          rw [div_loop k (a % b) (b % (a % b)) _ l h2 (by simp at hl; omega)]
          congr 2
          rw [Nat.gcd_comm a b, Nat.gcd_rec b a, Nat.gcd_rec (a % b) b, Nat.gcd_comm]
theorem div_ok {n : Nat} {a b : Int} {u : Cup} (ha : 0 ≤ a) (hb : 0 ≤ b) (h : b.natAbs < 2 ^ 1990) : R (n + 1) 16 [.int a, .int b] u = .ok (.int (Int.gcd a b)) u := by
  obtain ⟨a, rfl⟩ := Int.eq_ofNat_of_zero_le ha
  obtain ⟨b, rfl⟩ := Int.eq_ofNat_of_zero_le hb
  refine (run_succ d_law_divisor rfl rfl).trans ?_
  have e : evS wds "none" (R n) (.for_ (.n 2) (.rng (.c (.int 4000))) dBody) (dEnv a b none) u = .ret (.int (Nat.gcd a b)) u := by
    rw [evS_for]
    simp only [evE, Re.bind, ofRe, Ex.fv]
    rw [if_pos (by decide)]
    simp only [D.items]
    exact div_loop 1990 a b none (range 4000) (by simpa using h) (by rw [range_len]; decide)
  show SR.fin (evSs wds "none" (R n) (.for_ (.n 2) (.rng (.c (.int 4000))) dBody :: _) (dEnv a b none) u) = _
  rw [evSs, e]
  rfl
/-! ### lowest terms -/
def fr (p : Int × Int) : D := .tup [.int p.1, .int p.2]
theorem gcd_pos {t b : Int} (hb : b ≠ 0) : 0 < (Int.gcd t b : Int) := by
  have : Int.gcd t b ≠ 0 := fun e => hb (Int.gcd_eq_zero_iff.mp e).2
  omega
theorem gcd_log {t b : Int} (hb : b ≠ 0) (h : b.natAbs < 2 ^ 1990) : ((Int.gcd t b : Int)).natAbs.log2 < 9000 := by
  refine log9 (b := 1990) ?_ (by decide) (by decide)
  have h1 : Int.gcd t b ≤ b.natAbs := Nat.gcd_le_right _ (by omega)
  have h2 : ((Int.gcd t b : Int)).natAbs = Int.gcd t b := rfl
  omega
theorem lowest_ok {n : Nat} {t b : Int} {u : Cup} (hb : b ≠ 0) (h : b.natAbs < 2 ^ 1990) : R (n + 1) 5 [.int t, .int b] u = .ok (fr (low t b)) u := by
  have hg := gcd_pos (t := t) hb
  have hl := gcd_log (t := t) hb h
  have f1 : ∀ x : Int, binV .FloorDiv (.int x) (.int (Int.gcd t b : Int)) = some (.int (x / (Int.gcd t b : Int))) := fun x => by
    simp only [binV]
    rw [if_pos ⟨hg, hl⟩]
  have f2 : biV .gcd [.int t, .int b] = some (.int (Int.gcd t b : Int)) := rfl
  refine (run_succ d_lowest rfl rfl).trans ?_
  unfold low
  generalize (Int.gcd t b : Int) = g at *
  by_cases hq : 0 < b / g
  · simp [d_lowest, evSs, evS, evE, evL, ofRe, Re.bind, Ev.start, lift, f1, f2, cmpV, after, D.flat, Ex.fresh, D.ownable, SR.fin, setPar, hq, fr, big, D.flats]
  · simp [d_lowest, evSs, evS, evE, evL, ofRe, Re.bind, Ev.start, lift, f1, f2, cmpV, after, D.flat, Ex.fresh, D.ownable, SR.fin, setPar, hq, fr, big, D.flats]
theorem plain_ok {n : Nat} {t b : Int} {u : Cup} (hb : b ≠ 0) (h : b.natAbs < 2 ^ 1990) : R (n + 2) 17 [.int t, .int b] u = .ok (fr (low t b)) u := by
  have hg := gcd_pos (t := t) hb
  have hl := gcd_log (t := t) hb h
  have ed : R (n + 1) 16 [.int (if t < 0 then -t else t), .int (if b < 0 then -b else b)] u = .ok (.int (Int.gcd t b)) u := by
    rw [div_ok (by split <;> omega) (by split <;> omega) (by split <;> simpa using h)]
    congr 2
    have e1 : (if t < 0 then -t else t).natAbs = t.natAbs := by split <;> simp
    have e2 : (if b < 0 then -b else b).natAbs = b.natAbs := by split <;> simp
    unfold Int.gcd
    rw [e1, e2]
  simp only [R] at ed
  have f1 : ∀ x : Int, binV .FloorDiv (.int x) (.int (Int.gcd t b : Int)) = some (.int (x / (Int.gcd t b : Int))) := fun x => by
    simp only [binV]
    rw [if_pos ⟨hg, hl⟩]
  have f3 : ∀ x : Int, biV .abs [.int x] = some (.int (if x < 0 then -x else x)) := fun x => rfl
  refine (run_succ d_law_plain rfl rfl).trans ?_
  unfold low
  generalize (Int.gcd t b : Int) = g at *
  by_cases hq : 0 < b / g
  · simp [d_law_plain, evSs, evS, evE, evL, ofRe, Re.bind, Ev.start, lift, f1, f3, cmpV, after, D.flat, Ex.fresh, D.ownable, SR.fin, setPar, hq, fr, big, D.flats, ed]
  · simp [d_law_plain, evSs, evS, evE, evL, ofRe, Re.bind, Ev.start, lift, f1, f3, cmpV, after, D.flat, Ex.fresh, D.ownable, SR.fin, setPar, hq, fr, big, D.flats, ed]
theorem limits_ok {u : Cup} : R 12 20 [.cup] u = .ok (.bl true) u := by kernel_rfl
end K00

namespace K00
open Ev PySem
section
variable {n : Nat} {u : Cup} {p q : Int × Int}
theorem istup_ok : R (n + 1) 1 [fr p, .int 2, .int 2] u = .ok (.bl true) u := by
  refine (run_succ d_is_tuple_of rfl rfl).trans ?_
  simp [d_is_tuple_of, evSs, evS, evE, evL, evB, ofRe, Re.bind, Ev.start, lift, biV, cmpV, isiV, SR.fin, fr]
theorem whole_ok {x lo hi : Int} : R (n + 1) 0 [.int x, .int lo, .int hi] u = .ok (.bl (decide (lo ≤ x) && decide (x ≤ hi))) u := by
  refine (run_succ d_is_whole rfl rfl).trans ?_
  by_cases h : lo ≤ x
  · simp [d_is_whole, evSs, evS, evE, evL, evB, ofRe, Re.bind, Ev.start, lift, biV, cmpV, isiV, SR.fin, h]
    by_cases h2 : x ≤ hi <;> simp [h2]
  · simp [d_is_whole, evSs, evS, evE, evL, evB, ofRe, Re.bind, Ev.start, lift, biV, cmpV, isiV, SR.fin, h]
theorem isfr_ok (h : Fr p) : R (n + 2) 2 [fr p] u = .ok (.bl true) u := by
  have e1 : R (n + 1) 1 [fr p, .int 2, .int 2] u = .ok (.bl true) u := istup_ok
  simp only [R, fr] at e1
  have h1 : (1 : Int) ≤ p.2 := h.1
  have h2 : ((Nat.gcd p.1.natAbs p.2.natAbs : Nat) : Int) = 1 := by
    have := h.2
    unfold Int.gcd at this
    omega
  refine (run_succ d_is_fraction rfl rfl).trans ?_
  simp [d_is_fraction, evSs, evS, evE, evL, evB, ofRe, Re.bind, Ev.start, lift, biV, cmpV, isiV, SR.fin, fr, e1, D.items, lcLoop, Tg.put, wipeE, noExc, optCons, bls, ixR, ixV, L2.atI, L2.ixN, h1, h2, eqI, big]
theorem isport_ok (h : Fr p) : R (n + 3) 3 [fr p] u = .ok (.bl (decide (-1000000 ≤ p.1) && decide (p.1 ≤ 1000000) && decide (p.2 ≤ 1000000))) u := by
  have e1 : R (n + 2) 2 [fr p] u = .ok (.bl true) u := isfr_ok h
  have e2 : R (n + 2) 0 [.int p.1, .int (-1000000), .int 1000000] u = .ok (.bl (decide (-1000000 ≤ p.1) && decide (p.1 ≤ 1000000))) u := whole_ok
  simp only [R, fr] at e1 e2
  refine (run_succ d_is_portion rfl rfl).trans ?_
  by_cases a : -1000000 ≤ p.1 <;> by_cases b : p.1 ≤ 1000000 <;> by_cases c : p.2 ≤ 1000000 <;> simp [d_is_portion, evSs, evS, evE, evL, evB, ofRe, Re.bind, Ev.start, lift, cmpV, SR.fin, fr, e1, e2, ixR, ixV, L2.atI, L2.ixN, a, b, c]
theorem need_ok (h : Fr p) : R (n + 3) 4 [fr p] u = .ok .non u := by
  have e1 : R (n + 2) 2 [fr p] u = .ok (.bl true) u := isfr_ok h
  simp only [R, fr] at e1
  refine (run_succ d_need_fraction rfl rfl).trans ?_
  simp [d_need_fraction, evSs, evS, evE, evL, evB, ofRe, Re.bind, Ev.start, SR.fin, fr, e1]
def Sm (i : Int) : Prop := i.natAbs < 2 ^ 900
theorem mul_sm {i j : Int} (hi : Sm i) (hj : Sm j) : binV .Mult (.int i) (.int j) = some (.int (i * j)) := by
  have h1 : i.natAbs.log2 < 900 := PySem.Flt.log2_lt_of (by decide) hi
  have h2 : j.natAbs.log2 < 900 := PySem.Flt.log2_lt_of (by decide) hj
  have : mulOk i j = true := by
    unfold mulOk
    simp only [Bool.or_eq_true, decide_eq_true_eq]
    omega
  simp only [binV, this, if_true]
theorem sm_mul {i j : Int} (hi : Sm i) (hj : Sm j) : (i * j).natAbs < 2 ^ 1990 := by
  rw [Int.natAbs_mul]
  unfold Sm at hi hj
  calc i.natAbs * j.natAbs < 2 ^ 900 * 2 ^ 900 := Nat.mul_lt_mul'' hi hj
    _ ≤ 2 ^ 1990 := by rw [← Nat.pow_add]; exact Nat.pow_le_pow_right (by decide) (by decide)
structure SF (p : Int × Int) : Prop where
  fr : Fr p
  a : Sm p.1
  b : Sm p.2
theorem plus_ok (hp : SF p) (hq : SF q) : R (n + 2) 6 [fr p, fr q] u = .ok (fr (low (p.1 * q.2 + q.1 * p.2) (p.2 * q.2))) u := by
  have e : R (n + 1) 5 [.int (p.1 * q.2 + q.1 * p.2), .int (p.2 * q.2)] u = .ok (fr (low (p.1 * q.2 + q.1 * p.2) (p.2 * q.2))) u := lowest_ok (Int.ne_of_gt (Int.mul_pos hp.fr.1 hq.fr.1)) (sm_mul hp.b hq.b)
  have m1 := mul_sm hp.a hq.b
  have m2 := mul_sm hq.a hp.b
  have m3 := mul_sm hp.b hq.b
  have a1 : ∀ i j : Int, binV .Add (.int i) (.int j) = some (.int (i + j)) := fun _ _ => rfl
  simp only [R] at e
  refine (run_succ d_plus rfl rfl).trans ?_
  simp [d_plus, evSs, evS, evE, evL, ofRe, Re.bind, Ev.start, SR.fin, fr, lift, ixR, ixV, L2.atI, L2.ixN, m1, m2, m3, a1]
  rw [e]
  rfl
theorem times_ok (hp : SF p) (hq : SF q) : R (n + 2) 7 [fr p, fr q] u = .ok (fr (low (p.1 * q.1) (p.2 * q.2))) u := by
  have e : R (n + 1) 5 [.int (p.1 * q.1), .int (p.2 * q.2)] u = .ok (fr (low (p.1 * q.1) (p.2 * q.2))) u := lowest_ok (Int.ne_of_gt (Int.mul_pos hp.fr.1 hq.fr.1)) (sm_mul hp.b hq.b)
  have m1 := mul_sm hp.a hq.a
  have m3 := mul_sm hp.b hq.b
  simp only [R] at e
  refine (run_succ d_times rfl rfl).trans ?_
  simp [d_times, evSs, evS, evE, evL, ofRe, Re.bind, Ev.start, SR.fin, fr, lift, ixR, ixV, L2.atI, L2.ixN, m1, m3]
  rw [e]
  rfl
theorem over_ok (hp : SF p) (hq : SF q) (h0 : q.1 ≠ 0) : R (n + 2) 8 [fr p, fr q] u = .ok (fr (low (p.1 * q.2) (p.2 * q.1))) u := by
  have e : R (n + 1) 5 [.int (p.1 * q.2), .int (p.2 * q.1)] u = .ok (fr (low (p.1 * q.2) (p.2 * q.1))) u := lowest_ok (Int.mul_ne_zero (Int.ne_of_gt hp.fr.1) h0) (sm_mul hp.b hq.a)
  have m1 := mul_sm hp.a hq.b
  have m3 := mul_sm hp.b hq.a
  simp only [R] at e
  refine (run_succ d_over rfl rfl).trans ?_
  simp [d_over, evSs, evS, evE, evL, ofRe, Re.bind, Ev.start, SR.fin, fr, lift, ixR, ixV, L2.atI, L2.ixN, m1, m3]
  rw [e]
  rfl
theorem sum_ok (hp : SF p) (hq : SF q) : R (n + 4) 9 [fr p, fr q] u = .ok (fr (low (p.1 * q.2 + q.1 * p.2) (p.2 * q.2))) u := by
  have e1 : R (n + 3) 4 [fr p] u = .ok .non u := need_ok hp.fr
  have e2 : R (n + 3) 4 [fr q] u = .ok .non u := need_ok hq.fr
  have e3 : R (n + 3) 6 [fr p, fr q] u = _ := plus_ok hp hq
  simp only [R] at e1 e2 e3
  refine (run_succ d_fraction_sum rfl rfl).trans ?_
  simp [d_fraction_sum, evSs, evS, evE, evL, ofRe, Re.bind, Ev.start, SR.fin, e1, e2, e3]
theorem prod_ok (hp : SF p) (hq : SF q) : R (n + 4) 10 [fr p, fr q] u = .ok (fr (low (p.1 * q.1) (p.2 * q.2))) u := by
  have e1 : R (n + 3) 4 [fr p] u = .ok .non u := need_ok hp.fr
  have e2 : R (n + 3) 4 [fr q] u = .ok .non u := need_ok hq.fr
  have e3 : R (n + 3) 7 [fr p, fr q] u = _ := times_ok hp hq
  simp only [R] at e1 e2 e3
  refine (run_succ d_fraction_product rfl rfl).trans ?_
  simp [d_fraction_product, evSs, evS, evE, evL, ofRe, Re.bind, Ev.start, SR.fin, e1, e2, e3]
theorem by_ok (hp : SF p) (hq : SF q) (h0 : q.1 ≠ 0) : R (n + 4) 11 [fr p, fr q] u = .ok (fr (low (p.1 * q.2) (p.2 * q.1))) u := by
  have e1 : R (n + 3) 4 [fr p] u = .ok .non u := need_ok hp.fr
  have e2 : R (n + 3) 4 [fr q] u = .ok .non u := need_ok hq.fr
  have e3 : R (n + 3) 8 [fr p, fr q] u = _ := over_ok hp hq h0
  have e4 : ixV (fr q) (.int 0) = some (.int q.1) := rfl
  have e5 : (q.1 == 0) = false := by
    rw [beq_eq_false_iff_ne]
    exact h0
  have e6 : ixR (fr q) (.int 0) u = .ok (.int q.1) u := rfl
  simp only [R] at e1 e2 e3
  refine (run_succ d_fraction_by rfl rfl).trans ?_
  simp [d_fraction_by, evSs, evS, evE, evL, ofRe, Re.bind, Ev.start, SR.fin, e1, e2, e3, e6, cmpV, eqI, e5, lift]
theorem by_no (hp : SF p) (hq : SF q) (h0 : q.1 = 0) : R (n + 4) 11 [fr p, fr q] u = .exc 2 u := by
  have e1 : R (n + 3) 4 [fr p] u = .ok .non u := need_ok hp.fr
  have e2 : R (n + 3) 4 [fr q] u = .ok .non u := need_ok hq.fr
  have e6 : ixR (fr q) (.int 0) u = .ok (.int q.1) u := rfl
  simp only [R] at e1 e2
  refine (run_succ d_fraction_by rfl rfl).trans ?_
  simp [d_fraction_by, evSs, evS, evE, evL, ofRe, Re.bind, Ev.start, SR.fin, e1, e2, e6, cmpV, eqI, h0, lift]
end
end K00

namespace K00
open Ev PySem
section
variable {n : Nat} {u : Cup} {p q : Int × Int}
theorem sort_int {i : Int} : R (n + 1) 14 [.int i] u = .ok (.int 2) u := by
  refine (run_succ d_law_sort rfl rfl).trans ?_
  simp [d_law_sort, evSs, evS, evE, evL, evB, ofRe, Re.bind, Ev.start, SR.fin, lift, cmpV, isiV, D.isNon]
theorem sort_bl {b : Bool} : R (n + 1) 14 [.bl b] u = .ok (.int 1) u := by
  refine (run_succ d_law_sort rfl rfl).trans ?_
  simp [d_law_sort, evSs, evS, evE, evL, evB, ofRe, Re.bind, Ev.start, SR.fin, lift, cmpV, isiV, D.isNon]
theorem sort_tup {xs : List D} : R (n + 1) 14 [.tup xs] u = .ok (.int 4) u := by
  refine (run_succ d_law_sort rfl rfl).trans ?_
  simp [d_law_sort, evSs, evS, evE, evL, evB, ofRe, Re.bind, Ev.start, SR.fin, lift, cmpV, isiV, D.isNon]
theorem sort_lst {xs : List D} : R (n + 1) 14 [.lst xs] u = .ok (.int 5) u := by
  refine (run_succ d_law_sort rfl rfl).trans ?_
  simp [d_law_sort, evSs, evS, evE, evL, evB, ofRe, Re.bind, Ev.start, SR.fin, lift, cmpV, isiV, D.isNon]
theorem in_n2 : cmpV .In (.int 2) (.tup [.int 4, .int 5]) = some (.bl false) := rfl
theorem in_n1 : cmpV .In (.int 1) (.tup [.int 4, .int 5]) = some (.bl false) := rfl
theorem in_n4 : cmpV .In (.int 4) (.tup [.int 4, .int 5]) = some (.bl true) := rfl
theorem in_n5 : cmpV .In (.int 5) (.tup [.int 4, .int 5]) = some (.bl true) := rfl
theorem ne_I {i j : Int} : cmpV .NotEq (.int i) (.int j) = some (.bl (!(i == j))) := rfl
theorem eq_I {i j : Int} : cmpV .Eq (.int i) (.int j) = some (.bl (i == j)) := rfl
theorem eq_B {i j : Bool} : cmpV .Eq (.bl i) (.bl j) = some (.bl (i == j)) := by cases i <;> cases j <;> rfl
theorem eq_N : cmpV .Eq (.lst []) (.lst []) = some (.bl true) := rfl
theorem like_int {i : Int} : R (n + 2) 15 [.int i, .int i] u = .ok (.bl true) u := by
  have e : ∀ i u, R (n + 1) 14 [.int i] u = .ok (.int 2) u := fun _ _ => sort_int
  simp only [R] at e
  refine (run_succ d_law_like rfl rfl).trans ?_
  simp [d_law_like, evSs, evS, evE, evL, evB, ofRe, Re.bind, Ev.start, SR.fin, lift, e, in_n2, ne_I, eq_I, after, D.flat, D.ownable, Ex.fresh, big]
theorem like_bl {b : Bool} : R (n + 2) 15 [.bl b, .bl b] u = .ok (.bl true) u := by
  have e : ∀ i u, R (n + 1) 14 [.bl i] u = .ok (.int 1) u := fun _ _ => sort_bl
  simp only [R] at e
  refine (run_succ d_law_like rfl rfl).trans ?_
  simp [d_law_like, evSs, evS, evE, evL, evB, ofRe, Re.bind, Ev.start, SR.fin, lift, e, in_n1, ne_I, eq_I, eq_B, after, D.flat, D.ownable, Ex.fresh, big]
theorem lc_none {F : D → Cup → Re (Option D)} {u : Cup} : ∀ {l : List D}, (∀ d ∈ l, F d u = .ok none u) → lcLoop F l u = .ok [] u
  | [], _ => rfl
  | d :: l, h => by
    simp only [lcLoop, h d List.mem_cons_self, Re.bind, lc_none (fun d' hd => h d' (List.mem_cons_of_mem _ hd)), optCons]
theorem zip_same {xs : List D} {d : D} (h : d ∈ (xs.zip xs).map fun p => D.tup [p.1, p.2]) : ∃ x ∈ xs, d = .tup [x, x] := by
  obtain ⟨p, hp, rfl⟩ := List.mem_map.mp h
  obtain ⟨i, hi, e⟩ := List.getElem_of_mem hp
  rw [List.getElem_zip] at e
  subst e
  exact ⟨_, List.getElem_mem _, rfl⟩
theorem like_lst {xs : List D} (hb : xs.length ≤ 1000) (h : ∀ x ∈ xs, ∀ u, R (n + 1) 15 [x, x] u = .ok (.bl true) u) : R (n + 2) 15 [.lst xs, .lst xs] u = .ok (.bl true) u := by
  have e : ∀ i u, R (n + 1) 14 [.lst i] u = .ok (.int 5) u := fun _ _ => sort_lst
  have hl : ((xs.zip xs).map fun p => D.tup [p.1, p.2]).length ≤ big := by
    have hbb : big = 16777216 := rfl
    simp
    omega
  simp only [R] at e h
  have key : ∀ (f : D → Cup → Re (Option D)), (∀ x ∈ xs, f (.tup [x, x]) u = .ok none u) → lcLoop f ((xs.zip xs).map fun p => D.tup [p.1, p.2]) u = .ok [] u := fun f hf => lc_none fun d hd => by
    obtain ⟨x, hx, rfl⟩ := zip_same hd
    exact hf x hx
  refine (run_succ d_law_like rfl rfl).trans ?_
  simp [d_law_like, evSs, evS, evE, evL, evB, ofRe, Re.bind, Ev.start, SR.fin, lift, e, in_n5, ne_I, eq_I, after, D.flat, D.ownable, Ex.fresh, biV, D.items, big]
  rw [key _ fun x hx => ?_]
  · have hbb : xs.length ≤ 16777216 := by omega
    simp [noExc, eq_N, hbb]
  · simp [Tg.put, Tg.puts, wipeE, h x hx]
theorem like_tup {xs : List D} (hb : xs.length ≤ 1000) (h : ∀ x ∈ xs, ∀ u, R (n + 1) 15 [x, x] u = .ok (.bl true) u) : R (n + 2) 15 [.tup xs, .tup xs] u = .ok (.bl true) u := by
  have e : ∀ i u, R (n + 1) 14 [.tup i] u = .ok (.int 4) u := fun _ _ => sort_tup
  simp only [R] at e h
  have key : ∀ (f : D → Cup → Re (Option D)), (∀ x ∈ xs, f (.tup [x, x]) u = .ok none u) → lcLoop f ((xs.zip xs).map fun p => D.tup [p.1, p.2]) u = .ok [] u := fun f hf => lc_none fun d hd => by
    obtain ⟨x, hx, rfl⟩ := zip_same hd
    exact hf x hx
  refine (run_succ d_law_like rfl rfl).trans ?_
  simp [d_law_like, evSs, evS, evE, evL, evB, ofRe, Re.bind, Ev.start, SR.fin, lift, e, in_n4, ne_I, eq_I, after, D.flat, D.ownable, Ex.fresh, biV, D.items, big]
  rw [key _ fun x hx => ?_]
  · have hbb : xs.length ≤ 16777216 := by omega
    simp [noExc, eq_N, hbb]
  · simp [Tg.put, Tg.puts, wipeE, h x hx]
theorem like_fr : R (n + 3) 15 [fr p, fr p] u = .ok (.bl true) u := like_tup (n := n + 1) (by simp) fun x hx u => by
  simp only [List.mem_cons, List.not_mem_nil, or_false] at hx
  rcases hx with rfl | rfl <;> exact like_int
end
end K00

namespace K00
open Ev PySem
section
variable {n : Nat} {u : Cup} {p q : Int × Int}
theorem low_zero {b : Int} (hb : 0 < b) : low (0) b = (0, 1) := by
  refine fr_uniq (low_fr (Int.ne_of_gt hb)).1 ⟨by decide, by decide⟩ ?_
  have h := (low_fr (t := 0) (Int.ne_of_gt hb)).2.1
  rw [Int.zero_mul] at h
  have h0 : (low 0 b).1 = 0 := (Int.mul_eq_zero.mp h).resolve_right (Int.ne_of_gt hb)
  show (low 0 b).1 * 1 = 0 * (low 0 b).2
  rw [h0]
  simp
theorem low_back (hp : Fr p) (hq : Fr q) (h0 : q.1 ≠ 0) : low ((low (p.1 * q.2) (p.2 * q.1)).1 * q.1) ((low (p.1 * q.2) (p.2 * q.1)).2 * q.2) = p := by
  have hb : p.2 * q.1 ≠ 0 := Int.mul_ne_zero (Int.ne_of_gt hp.1) h0
  obtain ⟨f1, c1, _⟩ := low_fr (t := p.1 * q.2) hb
  generalize low (p.1 * q.2) (p.2 * q.1) = r at *
  have hy : r.2 * q.2 ≠ 0 := Int.mul_ne_zero (Int.ne_of_gt f1.1) (Int.ne_of_gt hq.1)
  obtain ⟨f2, c2, _⟩ := low_fr (t := r.1 * q.1) hy
  generalize low (r.1 * q.1) (r.2 * q.2) = s at *
  refine fr_uniq f2 hp ?_
  have k1 : p.1 * (r.2 * q.2) = r.1 * q.1 * p.2 := by
    have : r.1 * q.1 * p.2 = r.1 * (p.2 * q.1) := by ac_rfl
    rw [this, c1]
    ac_rfl
  have k2 : (s.1 * p.2) * (r.2 * q.2) = (p.1 * s.2) * (r.2 * q.2) := by
    calc (s.1 * p.2) * (r.2 * q.2) = (s.1 * (r.2 * q.2)) * p.2 := by ac_rfl
      _ = (r.1 * q.1 * s.2) * p.2 := by rw [c2]
      _ = (r.1 * q.1 * p.2) * s.2 := by ac_rfl
      _ = (p.1 * (r.2 * q.2)) * s.2 := by rw [k1]
      _ = (p.1 * s.2) * (r.2 * q.2) := by ac_rfl
  exact Int.eq_of_mul_eq_mul_right hy k2
/-- small parts -/
structure S1 (p : Int × Int) : Prop where
  fr : Fr p
  a : p.1.natAbs < 2 ^ 200
  b : p.2.natAbs < 2 ^ 200
theorem S1.sf (h : S1 p) : SF p := ⟨h.fr, Nat.lt_of_lt_of_le h.a (Nat.pow_le_pow_right (by decide) (by decide)), Nat.lt_of_lt_of_le h.b (Nat.pow_le_pow_right (by decide) (by decide))⟩
theorem mul_200 {i j : Int} (hi : i.natAbs < 2 ^ 200) (hj : j.natAbs < 2 ^ 200) : (i * j).natAbs < 2 ^ 400 := by
  rw [Int.natAbs_mul]
  calc i.natAbs * j.natAbs < 2 ^ 200 * 2 ^ 200 := Nat.mul_lt_mul'' hi hj
    _ = 2 ^ 400 := by rw [← Nat.pow_add]
theorem sf_low {t b : Int} (hb : b ≠ 0) (h1 : t.natAbs < 2 ^ 400) (h2 : b.natAbs < 2 ^ 400) : SF (low t b) := by
  obtain ⟨f, _, a1, a2⟩ := low_fr (t := t) hb
  have k : (2 : Nat) ^ 400 ≤ 2 ^ 900 := Nat.pow_le_pow_right (by decide) (by decide)
  exact ⟨f, Nat.lt_of_le_of_lt a1 (Nat.lt_of_lt_of_le h1 k), Nat.lt_of_le_of_lt a2 (Nat.lt_of_lt_of_le h2 k)⟩
theorem pow40 : binV .Pow (.int 10) (.int 40) = some (.int 10000000000000000000000000000000000000000) := rfl
theorem pow6 : binV .Pow (.int 10) (.int 6) = some (.int 1000000) := rfl
theorem addI {i j : Int} : binV .Add (.int i) (.int j) = some (.int (i + j)) := rfl
theorem fraction_ok : ∃ p u', R (n + 3) 18 [.cup] u = .ok (fr p) u' ∧ S1 p := by
  obtain ⟨g, u1, e1, hg⟩ := some_ok (n := n) (xs := [1, 3, 1000000, 10000000000000000000000000000000000000000]) (u := u) (by decide) (by decide)
  obtain ⟨x, u2, e2, hx⟩ := some_ok (n := n) (xs := [0, 1, 2, 5, g]) (u := u1) (by simp) (by simp)
  obtain ⟨r, u3, e3, hr0, hr1⟩ := roll_ok (n := n + 1) (m := 4) (u := u2) (by decide) (log9 (b := 3) (by decide) (by decide) (by decide))
  obtain ⟨y, u4, e4, hy⟩ := some_ok (n := n) (xs := [0, 1, 2, 5, g]) (u := u3) (by simp) (by simp)
  obtain ⟨s, u5, e5, hs0, hs1⟩ := roll_ok (n := n + 1) (m := 2) (u := u4) (by decide) (log9 (b := 3) (by decide) (by decide) (by decide))
  simp only [List.mem_cons, List.not_mem_nil, or_false] at hg hx hy
  have big10 : (10000000000000000000000000000000000000000 : Int) + 10 < 2 ^ 200 := by decide
  have g0 : 0 ≤ g ∧ g ≤ 10000000000000000000000000000000000000000 := by omega
  have x0 : 0 ≤ x ∧ x ≤ 10000000000000000000000000000000000000000 := by omega
  have y0 : 0 ≤ y ∧ y ≤ 10000000000000000000000000000000000000000 := by omega
  have hb : (1 + y) ≠ 0 := by omega
  have k200 : (2 : Nat) ^ 200 = 1606938044258990275541962092341162602522202993782792835301376 := by decide +kernel
  have hbs : (1 + y).natAbs < 2 ^ 200 := by rw [k200]; omega
  have hbs2 : (1 + y).natAbs < 2 ^ 1990 := Nat.lt_of_lt_of_le hbs (Nat.pow_le_pow_right (by decide) (by decide))
  have fin : ∀ t : Int, t.natAbs < 2 ^ 200 → S1 (low t (1 + y)) := fun t ht => by
    obtain ⟨f, _, a1, a2⟩ := low_fr (t := t) hb
    exact ⟨f, Nat.lt_of_le_of_lt a1 ht, Nat.lt_of_le_of_lt a2 hbs⟩
  have e6 : ∀ t : Int, R (n + 2) 17 [.int t, .int (1 + y)] u5 = .ok (fr (low t (1 + y))) u5 := fun t => plain_ok hb hbs2
  simp only [R, List.map_cons, List.map_nil] at e1 e2 e3 e4 e5 e6
  refine ⟨low (if s = 0 then x + r else -(x + r)) (1 + y), u5, ?_, fin _ (by rw [k200]; split <;> omega)⟩
  refine (run_succ d_law_fraction rfl rfl).trans ?_
  by_cases h : s = 0
  · subst h
    simp [d_law_fraction, evSs, evS, evE, evL, evB, ofRe, Re.bind, Ev.start, SR.fin, lift, pow40, pow6, e1, e2, e3, e4, e5, addI, after, D.flat, D.ownable, D.flats, Ex.fresh, Ex.fv, big, setPar, eq_I, e6, freeze, frz]
  · have h' : (s == 0) = false := by
      rw [beq_eq_false_iff_ne]
      exact h
    simp [d_law_fraction, evSs, evS, evE, evL, evB, ofRe, Re.bind, Ev.start, SR.fin, lift, pow40, pow6, e1, e2, e3, e4, e5, addI, after, D.flat, D.ownable, D.flats, Ex.fresh, Ex.fv, big, setPar, eq_I, e6, h, h', freeze, frz]
end
end K00

namespace K00
open Ev PySem
section
variable {n : Nat} {u : Cup} {p q : Int × Int}
theorem two_ok : ∃ u', R (n + 6) 19 [.cup] u = .ok (.bl true) u' := by
  obtain ⟨p, u1, e1, hp⟩ := fraction_ok (n := n + 2) (u := u)
  obtain ⟨q, u2, e2, hq⟩ := fraction_ok (n := n + 2) (u := u1)
  refine ⟨u2, ?_⟩
  have sp := hp.sf
  have sq := hq.sf
  have sm : SF (-p.1, p.2) := ⟨⟨hp.fr.1, by show Int.gcd (-p.1) p.2 = 1; rw [Int.neg_gcd]; exact hp.fr.2⟩, by show (-p.1).natAbs < _; rw [Int.natAbs_neg]; exact sp.a, sp.b⟩
  have bd : p.2 * q.2 ≠ 0 := Int.ne_of_gt (Int.mul_pos hp.fr.1 hq.fr.1)
  have b1 : R (n + 5) 2 [fr p] u2 = .ok (.bl true) u2 := isfr_ok hp.fr
  have b2 : R (n + 5) 3 [fr p] u2 = _ := isport_ok hp.fr
  have b3 : R (n + 5) 9 [fr p, fr q] u2 = _ := sum_ok sp sq
  have b4 : R (n + 5) 10 [fr p, fr q] u2 = _ := prod_ok sp sq
  have b5 : R (n + 5) 9 [fr p, fr (-p.1, p.2)] u2 = .ok (fr (0, 1)) u2 := by
    have h := sum_ok (n := n + 1) (u := u2) sp sm
    have e : p.1 * (-p.1, p.2).2 + (-p.1, p.2).1 * p.2 = 0 := by
      show p.1 * p.2 + -p.1 * p.2 = 0
      rw [Int.neg_mul]
      omega
    rw [e, show p.2 * (-p.1, p.2).2 = p.2 * p.2 from rfl, low_zero (Int.mul_pos hp.fr.1 hp.fr.1)] at h
    exact h
  have c1 : R (n + 5) 17 [.int (p.1 * q.2 + q.1 * p.2), .int (p.2 * q.2)] u2 = _ := plain_ok bd (sm_mul sp.b sq.b)
  have c2 : R (n + 5) 17 [.int (p.1 * q.1), .int (p.2 * q.2)] u2 = _ := plain_ok bd (sm_mul sp.b sq.b)
  have like5 : ∀ (b : Bool) (x y z : Int × Int), R (n + 5) 15 [.lst [.bl true, .bl b, fr x, fr y, fr z], .lst [.bl true, .bl b, fr x, fr y, fr z]] u2 = .ok (.bl true) u2 := fun b x y z => like_lst (n := n + 3) (by simp) fun d hd u => by
    simp only [List.mem_cons, List.not_mem_nil, or_false] at hd
    rcases hd with rfl | rfl | rfl | rfl | rfl <;> first | exact like_bl | exact like_fr
  have like2 : ∀ (x y : Int × Int), R (n + 5) 15 [.lst [fr x, fr y], .lst [fr x, fr y]] u2 = .ok (.bl true) u2 := fun x y => like_lst (n := n + 3) (by simp) fun d hd u => by
    simp only [List.mem_cons, List.not_mem_nil, or_false] at hd
    rcases hd with rfl | rfl <;> exact like_fr
  have m1 := mul_sm sp.a sq.b
  have m2 := mul_sm sq.a sp.b
  have m3 := mul_sm sp.b sq.b
  have m4 := mul_sm sp.a sq.a
  have m5 := mul_sm sp.b sq.a
  have l5 := like5 true (low (p.1 * q.2 + q.1 * p.2) (p.2 * q.2)) (low (p.1 * q.1) (p.2 * q.2)) (0, 1)
  have l6 := like5 false (low (p.1 * q.2 + q.1 * p.2) (p.2 * q.2)) (low (p.1 * q.1) (p.2 * q.2)) (0, 1)
  have leI : ∀ i j : Int, cmpV .LtE (.int i) (.int j) = some (.bl (decide (i ≤ j))) := fun _ _ => rfl
  by_cases h0 : q.1 = 0
  · have d1 : R (n + 5) 11 [fr p, fr q] u2 = .exc 2 u2 := by_no sp sq h0
    have q0 : (q.1 == 0) = true := by rw [h0]; rfl
    have sne : cmpV .Eq (.str ("no" : Str)) (.str ("no" : Str)) = some (.bl true) := by kernel_rfl
    have w2 : wds 2 = some ("no" : Str) := rfl
    simp only [R, fr] at e1 e2 b1 b2 b3 b4 b5 c1 c2 l5 l6 d1
    refine (run_succ d_law_two_right rfl rfl).trans ?_
    by_cases x1 : -1000000 ≤ p.1 <;> by_cases x2 : p.1 ≤ 1000000 <;> by_cases x3 : p.2 ≤ 1000000 <;> simp [d_law_two_right, evSs, evS, evE, evL, evB, ofRe, Re.bind, Ev.start, SR.fin, lift, e1, e2, b1, b2, b3, b4, b5, c1, c2, l5, l6, d1, sne, w2, pow6, addI, m1, m2, m3, m4, m5, after, D.flat, D.ownable, D.flats, Ex.fresh, Ex.fv, Ex.fvs, big, eq_I, q0, freeze, frz, Tg.put, Tg.puts, x1, x2, x3, leI]
  · have d1 : R (n + 5) 11 [fr p, fr q] u2 = _ := by_ok sp sq h0
    have bc : p.2 * q.1 ≠ 0 := Int.mul_ne_zero (Int.ne_of_gt hp.fr.1) h0
    have sr : SF (low (p.1 * q.2) (p.2 * q.1)) := sf_low bc (mul_200 hp.a hq.b) (mul_200 hp.b hq.a)
    have d2 : R (n + 5) 10 [fr (low (p.1 * q.2) (p.2 * q.1)), fr q] u2 = .ok (fr p) u2 := by
      have h := prod_ok (n := n + 1) (u := u2) sr sq
      rw [low_back hp.fr hq.fr h0] at h
      exact h
    have d3 : R (n + 5) 17 [.int (p.1 * q.2), .int (p.2 * q.1)] u2 = _ := plain_ok bc (sm_mul sp.b sq.a)
    have l2 := like2 (low (p.1 * q.2) (p.2 * q.1)) p
    have q0 : (q.1 == 0) = false := by
      rw [beq_eq_false_iff_ne]
      exact h0
    simp only [R, fr] at e1 e2 b1 b2 b3 b4 b5 c1 c2 l5 l6 d1 d2 d3 l2
    refine (run_succ d_law_two_right rfl rfl).trans ?_
    by_cases x1 : -1000000 ≤ p.1 <;> by_cases x2 : p.1 ≤ 1000000 <;> by_cases x3 : p.2 ≤ 1000000 <;> simp [d_law_two_right, evSs, evS, evE, evL, evB, ofRe, Re.bind, Ev.start, SR.fin, lift, e1, e2, b1, b2, b3, b4, b5, c1, c2, l5, l6, d1, d2, d3, l2, pow6, addI, m1, m2, m3, m4, m5, after, D.flat, D.ownable, D.flats, Ex.fresh, Ex.fv, Ex.fvs, big, eq_I, q0, freeze, frz, Tg.put, Tg.puts, x1, x2, x3, leI]
end
/-- the law's own statements, for every cup -/
theorem loop_ok {m : Nat} : ∀ (l : List D) (u : Cup) (t : Sl), ∃ u' t', forLoop (turnS wds "none" (R (m + 6)) (.n 2) [.ite (.not (.call 19 [.v 1])) [.ret (.c (.bl false))] []]) l [none, some (false, .cup), t] u = .next [none, some (false, .cup), t'] u'
  | [], u, t => ⟨u, t, rfl⟩
  | x :: l, u, t => by
    obtain ⟨u1, e⟩ := two_ok (n := m) (u := u)
    obtain ⟨u2, t2, e2⟩ := loop_ok l u1 (some (false, x))
    refine ⟨u2, t2, ?_⟩
    simp only [R] at e e2 ⊢
    simp only [forLoop]
    have h : turnS wds "none" (Ev.run wds "none" prog (m + 6)) (.n 2) [.ite (.not (.call 19 [.v 1])) [.ret (.c (.bl false))] []] x [none, some (false, .cup), t] u = .next [none, some (false, .cup), some (false, x)] u1 := by
      simp [turnS, Tg.put, evSs, evS, evE, evL, ofRe, Re.bind, e]
    rw [h]
    exact e2
theorem plain : ∀ ns : List Int, ns.length ≤ 63 → ∃ u', evSs wds "none" (Ev.run wds "none" prog 12) s_law (lawEnv n_law.length) (cup0 ns) = .ret (.bl true) u' := fun ns _ => by
  obtain ⟨u', t', e⟩ := loop_ok (m := 6) (range 12) (cup0 ns) none
  refine ⟨u', ?_⟩
  have hl : R 12 20 [.cup] u' = .ok (.bl true) u' := limits_ok
  have e1 : evS wds "none" (R 12) (.for_ (.n 2) (.rng (.c (.int 12))) [.ite (.not (.call 19 [.v 1])) [.ret (.c (.bl false))] []]) [none, some (false, .cup), none] (cup0 ns) = .next [none, some (false, .cup), t'] u' := by
    rw [evS_for]
    simp only [evE, Re.bind, ofRe, Ex.fv]
    rw [if_pos (by decide)]
    simp only [D.items]
    exact e
  simp only [R] at e1 hl
  show evSs wds "none" (Ev.run wds "none" prog 12) s_law [none, some (false, .cup), none] (cup0 ns) = _
  simp only [s_law, evSs, e1]
  simp [evS, evE, evL, ofRe, Re.bind, hl]
end K00

open PySem PySem.W PyProof.Rows
set_option maxRecDepth 100000 in
set_option maxHeartbeats 0 in
theorem PySem.Challenge.cw_figuresproved_k00_whole_fractions_holds : PySem.Challenge.rw_figuresproved_k00_whole_fractions.Holds := by
  w_on; o_law; k_head; (case hw => w_witness2)
  k_fill
  refine LamX.walk_ofTs (l := PySem.Challenge.rw_figuresproved_k00_whole_fractions) (n := 63) (k := 3 * 12 + 3) (x := "script") (CX := fun w => L2N.CX PySem.Challenge.rw_figuresproved_k00_whole_fractions.prog w) rfl (by decide) rfl ⟨rfl, by decide, by decide⟩ (fun w h Y => PySem.W.km_in_of Y) ?F (fun w H s e s' z => by obtain ⟨_, _, _, _, _, _, _, _, _, _, _, _, q⟩ := z; exact q)
  case F =>
    intro w mg fa h Y KX G hmg
    refine' K00.raw_ KX G hmg (PySem.W.km_tabs_of Y) ?a_is_whole ?l_is_whole ?e_is_whole ?k_is_whole ?a_is_tuple_of ?l_is_tuple_of ?e_is_tuple_of ?k_is_tuple_of ?a_is_fraction ?l_is_fraction ?e_is_fraction ?k_is_fraction ?a_is_portion ?l_is_portion ?e_is_portion ?k_is_portion ?a_need_fraction ?l_need_fraction ?e_need_fraction ?k_need_fraction ?a_lowest ?l_lowest ?e_lowest ?k_lowest ?a_plus ?l_plus ?e_plus ?k_plus ?a_times ?l_times ?e_times ?k_times ?a_over ?l_over ?e_over ?k_over ?a_fraction_sum ?l_fraction_sum ?e_fraction_sum ?k_fraction_sum ?a_fraction_product ?l_fraction_product ?e_fraction_product ?k_fraction_product ?a_fraction_by ?l_fraction_by ?e_fraction_by ?k_fraction_by ?a__law_roll ?l__law_roll ?e__law_roll ?k__law_roll ?a__law_some ?l__law_some ?e__law_some ?k__law_some ?a__law_sort ?l__law_sort ?e__law_sort ?k__law_sort ?a__law_like ?l__law_like ?e__law_like ?k__law_like ?a__law_divisor ?l__law_divisor ?e__law_divisor ?k__law_divisor ?a__law_plain ?l__law_plain ?e__law_plain ?k__law_plain ?a__law_fraction ?l__law_fraction ?e__law_fraction ?k__law_fraction ?a__law_two_right ?l__law_two_right ?e__law_two_right ?k__law_two_right ?a__law_limits_right ?l__law_limits_right ?e__law_limits_right ?k__law_limits_right ?a__law_cup ?l__law_cup ?e__law_cup ?k__law_cup ?a__law_error ?l__law_error ?e__law_error ?k__law_error ?a_law ?l_law ?e_law ?k_law ?Z__law_two_right ?Z__law_limits_right ?Q_1_0 ?aC0 ?kC0 ?qC0 ?sC0 ?yC0 ?aC1 ?kC1 ?qC1 ?sC1 ?yC1 ?aC2 ?kC2 ?qC2 ?sC2 ?yC2 ?eC1 ?x0C1 ?x1C1 ?x2C1 ?x3C1 ?x4C1 ?iC1_0 ?iC1_1 ?iC1_2 ?eC2 ?x0C2 ?x1C2 ?x2C2 ?x3C2 ?x4C2 ?iC2_0 ?iC2_1 ?iC2_2 ?y1 ?y2 ?b_isinstance ?b_int ?b_bool ?b_str ?b_tuple ?b_list ?b_len ?b_abs ?b_all ?b_any ?b_sum ?b_range ?b_zip ?b_gcd ?K_FAR K00.plain
    (case a_is_whole => k_is)
    (case l_is_whole => k_is)
    (case e_is_whole => k_is)
    (case k_is_whole => k_is)
    (case a_is_tuple_of => k_is)
    (case l_is_tuple_of => k_is)
    (case e_is_tuple_of => k_is)
    (case k_is_tuple_of => k_is)
    (case a_is_fraction => k_is)
    (case l_is_fraction => k_is)
    (case e_is_fraction => k_is)
    (case k_is_fraction => k_is)
    (case a_is_portion => k_is)
    (case l_is_portion => k_is)
    (case e_is_portion => k_is)
    (case k_is_portion => k_is)
    (case a_need_fraction => k_is)
    (case l_need_fraction => k_is)
    (case e_need_fraction => k_is)
    (case k_need_fraction => k_is)
    (case a_lowest => k_is)
    (case l_lowest => k_is)
    (case e_lowest => k_is)
    (case k_lowest => k_is)
    (case a_plus => k_is)
    (case l_plus => k_is)
    (case e_plus => k_is)
    (case k_plus => k_is)
    (case a_times => k_is)
    (case l_times => k_is)
    (case e_times => k_is)
    (case k_times => k_is)
    (case a_over => k_is)
    (case l_over => k_is)
    (case e_over => k_is)
    (case k_over => k_is)
    (case a_fraction_sum => k_is)
    (case l_fraction_sum => k_is)
    (case e_fraction_sum => k_is)
    (case k_fraction_sum => k_is)
    (case a_fraction_product => k_is)
    (case l_fraction_product => k_is)
    (case e_fraction_product => k_is)
    (case k_fraction_product => k_is)
    (case a_fraction_by => k_is)
    (case l_fraction_by => k_is)
    (case e_fraction_by => k_is)
    (case k_fraction_by => k_is)
    (case a__law_roll => k_is)
    (case l__law_roll => k_is)
    (case e__law_roll => k_is)
    (case k__law_roll => k_is)
    (case a__law_some => k_is)
    (case l__law_some => k_is)
    (case e__law_some => k_is)
    (case k__law_some => k_is)
    (case a__law_sort => k_is)
    (case l__law_sort => k_is)
    (case e__law_sort => k_is)
    (case k__law_sort => k_is)
    (case a__law_like => k_is)
    (case l__law_like => k_is)
    (case e__law_like => k_is)
    (case k__law_like => k_is)
    (case a__law_divisor => k_is)
    (case l__law_divisor => k_is)
    (case e__law_divisor => k_is)
    (case k__law_divisor => k_is)
    (case a__law_plain => k_is)
    (case l__law_plain => k_is)
    (case e__law_plain => k_is)
    (case k__law_plain => k_is)
    (case a__law_fraction => k_is)
    (case l__law_fraction => k_is)
    (case e__law_fraction => k_is)
    (case k__law_fraction => k_is)
    (case a__law_two_right => k_is)
    (case l__law_two_right => k_is)
    (case e__law_two_right => k_is)
    (case k__law_two_right => k_is)
    (case a__law_limits_right => k_is)
    (case l__law_limits_right => k_is)
    (case e__law_limits_right => k_is)
    (case k__law_limits_right => k_is)
    (case a__law_cup => k_is)
    (case l__law_cup => k_is)
    (case e__law_cup => k_is)
    (case k__law_cup => k_is)
    (case a__law_error => k_is)
    (case l__law_error => k_is)
    (case e__law_error => k_is)
    (case k__law_error => k_is)
    (case a_law => k_is)
    (case l_law => k_is)
    (case e_law => k_is)
    (case k_law => k_is)
    (case Z__law_two_right => first | exact ⟨by rfl, List.mem_cons_self, by rfl⟩ | exact ⟨by rfl, (List.mem_cons_of_mem _ List.mem_cons_self), by rfl⟩)
    (case Z__law_limits_right => first | exact ⟨by rfl, List.mem_cons_self, by rfl⟩ | exact ⟨by rfl, (List.mem_cons_of_mem _ List.mem_cons_self), by rfl⟩)
    (case Q_1_0 => decide)
    (case aC0 => k_is)
    (case kC0 => k_is)
    (case qC0 => kernel_rfl)
    (case sC0 => k_is)
    (case yC0 => k_is)
    (case aC1 => k_is)
    (case kC1 => k_is)
    (case qC1 => kernel_rfl)
    (case sC1 => k_is)
    (case yC1 => k_is)
    (case aC2 => k_is)
    (case kC2 => k_is)
    (case qC2 => kernel_rfl)
    (case sC2 => k_is)
    (case yC2 => k_is)
    (case eC1 => kernel_rfl)
    (case x0C1 => k_is)
    (case x1C1 => k_is)
    (case x2C1 => k_is)
    (case x3C1 => k_is)
    (case x4C1 => k_is)
    (case iC1_0 => kernel_rfl)
    (case iC1_1 => kernel_rfl)
    (case iC1_2 => kernel_rfl)
    (case eC2 => kernel_rfl)
    (case x0C2 => k_is)
    (case x1C2 => k_is)
    (case x2C2 => k_is)
    (case x3C2 => k_is)
    (case x4C2 => k_is)
    (case iC2_0 => kernel_rfl)
    (case iC2_1 => kernel_rfl)
    (case iC2_2 => kernel_rfl)
    (case y1 => k_is)
    (case y2 => k_is)
    (case b_isinstance => k_is)
    (case b_int => k_is)
    (case b_bool => k_is)
    (case b_str => k_is)
    (case b_tuple => k_is)
    (case b_list => k_is)
    (case b_len => k_is)
    (case b_abs => k_is)
    (case b_all => k_is)
    (case b_any => k_is)
    (case b_sum => k_is)
    (case b_range => k_is)
    (case b_zip => k_is)
    (case b_gcd => k_is)
    (case K_FAR => k_is)

