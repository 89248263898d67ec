import PyProof.Rows.All
import Wide.All
import OpenK.AllK
import Wide.FinOn
import HandS.ForMost
import HandS.ForSpec
import HandS.Wide
import HandS.Gcd
import HandS.IsInst
import HandS.TupAny
import HandS.TupMul
import HandS.Zip
import HandS.Deep
import HandS.Walk
import HandS.Lambda
import HandS.EndTab
import HandS.ExcIs
import HandS.Text
import HandS.More
import HandS.Strs
import HandS.ExcCtx
import HandS.HotCalls
import KE.GoesEnum
import KE.KDictZip
import PyProof.ListNew
import KE.DataMinMax
import HandS.Conv
import HandS.SetFor
import HandS.Set
import PyProof.Rows.TmSorted
import HandS.SortInts
import HandS.Dict
import HandS.List
import HandS.ExcValue
import HandS.Style
import HandS.Words
import HandS.HeadHook3
import KE.KNestM
import KE.KExcLine
import PySem.Challenge.RW_figuresproved_k09_whole_free_signs
set_option Elab.async false
set_option linter.all false
set_option maxRecDepth 100000
set_option maxHeartbeats 8000000
/-! The evaluator: values D without a heap, expressions Ex, statements Sx, their meaning as plain functions. -/
namespace Ev
open PySem

/-- the two numbers of the cup -/
abbrev Cup := Int × Int
inductive D where
  | non | bl (b : Bool) | int (i : Int) | str (x : Str) | tup (xs : List D) | lst (xs : List D) | fn (k : Nat) | cup | exc (k : Nat) | dic (ks : List L2.Key) (xs : List D)
  deriving Inhabited
inductive Tg where
  | n (i : Nat) | t (ts : List Tg)
inductive Ty where
  | int | bool | str | tuple | list
  deriving DecidableEq
inductive Bi where
  | len | abs | int | tuple | all | any | sum | gcd | list | max | min | sorted | dict | str
  deriving DecidableEq
inductive Ex where
  | v (i : Nat)
  | c (d : D)
  | g (x : Str) (d : D)
  | f (k : Nat)
  | tup (es : List Ex) | lst (es : List Ex)
  | bin (o : Operator) (a b : Ex)
  | neg (a : Ex) | not (a : Ex)
  | cmp (o : CmpOp) (a b : Ex)
  | ch (o o' : CmpOp) (a b c : Ex)
  | bop (o : BoolOp) (es : List Ex)
  | ite (c a b : Ex)
  | ix (a b : Ex)
  | call (k : Nat) (es : List Ex)
  | callv (i : Nat) (es : List Ex)
  | bi (b : Bi) (es : List Ex)
  | isi (a : Ex) (t : Ty)
  | rng (a : Ex)
  | zip (a b : Ex)
  | lc (own : List Nat) (tg : Tg) (src : Ex) (ifs : List Ex) (elt : Ex)
  | err (e : Ex)
  | isE (i : Nat) (t : List (Nat × Bool)) (k : Nat)
  | join (a b : Ex)
  | kget (x : Str) (t : List (Str × D)) (es : List Ex)
  | sl (a lo hi : Ex)
  | enu (a : Ex) | lse (a : Ex) | sgn (a : Ex)
  | idx (a b : Ex)
  | dic (es : List Ex)
  | rng2 (a b : Ex) | lrg (a b : Ex)
  | dget (a : Ex) (es : List Ex)
  | sset (a : Ex)
  | never
inductive Sx where
  | set (i : Nat) (e : Ex)
  | asg (ts : List Tg) (e : Ex)
  | par (is : List Nat) (es : List Ex)
  | sub (i : Nat) (k e : Ex)
  | app (i : Nat) (e : Ex)
  | exp (e : Ex)
  | ret (e : Ex)
  | ite (c : Ex) (a b : List Sx)
  | for_ (tg : Tg) (src : Ex) (body : List Sx)
  | while_ (c : Ex) (body : List Sx)
  | pop (tg : Tg) (i : Nat)
  | forP (tg : Tg) (k x i : Nat) (body : List Sx)
  | raise (k : Nat)
  | pass

inductive Re (α : Type) where
  | ok (a : α) (u : Cup) | exc (k : Nat) (u : Cup) | bad
def Re.bind {α β : Type} (r : Re α) (f : α → Cup → Re β) : Re β := match r with
  | .ok a u => f a u
  | .exc k u => .exc k u
  | .bad => .bad
/-- a slot: is it the only holder of its list; its value -/
abbrev Sl := Option (Bool × D)
abbrev En := List Sl
inductive SR where
  | next (e : En) (u : Cup) | ret (d : D) (u : Cup) | exc (k : Nat) (u : Cup) | bad

/-! ### values -/
mutual
def D.flat : D → Bool
  | .lst _ => false
  | .dic _ _ => false
  | .tup xs => D.flats xs
  | _ => true
def D.flats : List D → Bool
  | [] => true
  | x :: xs => x.flat && D.flats xs
end
def D.isBox : D → Bool
  | .lst _ => true
  | .dic _ _ => true
  | _ => false
def D.its : D → List D
  | .lst xs => xs
  | .dic _ xs => xs
  | _ => []
def D.ownable (d : D) : Bool := d.isBox && D.flats d.its
def D.key : D → Option L2.Key
  | .int i => some (.inl i)
  | .str x => some (.inr x)
  | _ => none
def keys : List D → Option (List L2.Key)
  | [] => some []
  | x :: xs => match x.key, keys xs with | some k, some ks => some (k :: ks) | _, _ => none
mutual
def D.toP : D → Option PyData
  | .non => some .none
  | .bl b => some (.bool b)
  | .int i => some (.int i)
  | .str x => some (.str x)
  | .tup xs => match D.toPs xs with | some ps => some (.tuple ps) | none => none
  | .lst xs => match D.toPs xs with | some ps => some (.list ps) | none => none
  | .fn _ => none
  | .cup => none
  | .exc _ => none
  | .dic _ _ => none
def D.toPs : List D → Option (List PyData)
  | [] => some []
  | x :: xs => match x.toP, D.toPs xs with | some p, some ps => some (p :: ps) | _, _ => none
end
def D.eq (a b : D) : Option Bool := match a.toP, b.toP with
  | some p, some q => if SeqAt.shaped p && SeqAt.shaped q then some (PyData.eqv p q) else none
  | _, _ => none
/-- scalars as the layer's values -/
def D.sc : D → Option L2.V
  | .non => some .non
  | .bl b => some (.bl b)
  | .int i => some (.int i)
  | .str x => some (.str x)
  | _ => none
def scs : List D → Option (List L2.V)
  | [] => some []
  | x :: xs => match x.sc, scs xs with | some v, some vs => some (v :: vs) | _, _ => none
def bls : List D → Option (List Bool)
  | [] => some []
  | .bl b :: xs => match bls xs with | some bs => some (b :: bs) | none => none
  | _ :: _ => none
def allI : List D → Option (List Int)
  | [] => some []
  | .int b :: xs => match allI xs with | some bs => some (b :: bs) | none => none
  | _ :: _ => none
def mulOk (i j : Int) : Bool := decide (i.natAbs < 18446744073709551616) || decide (j.natAbs < 18446744073709551616) || decide (i.natAbs.log2 + j.natAbs.log2 < 1000000)
def big : Nat := 16777216
def rep (k : Nat) (xs : List D) : List D := (List.replicate k xs).flatten

def binV (o : Operator) (x y : D) : Option D := match o, x, y with
  | .Add, .int i, .int j => some (.int (i + j))
  | .Sub, .int i, .int j => some (.int (i - j))
  | .Mult, .int i, .int j => if mulOk i j then some (.int (i * j)) else none
  | .FloorDiv, .int i, .int j => if 0 < j ∧ j.natAbs.log2 < 9000 then some (.int (i / j)) else none
  | .Mod, .int i, .int j => if 0 < j then some (.int (i % j)) else none
  | .Pow, .int i, .int j => if 0 ≤ j ∧ j ≤ 1000000 ∧ i.natAbs < 18446744073709551616 then some (.int (i ^ j.toNat)) else none
  | .Add, .lst xs, .lst ys => if xs.length + ys.length ≤ big then some (.lst (xs ++ ys)) else none
  | .Add, .tup xs, .tup ys => if xs.length + ys.length ≤ big then some (.tup (xs ++ ys)) else none
  | .Add, .str x, .str y => if x.length + y.length ≤ big then some (.str (x ++ y)) else none
  | .Mult, .lst xs, .int k => if 0 ≤ k ∧ k < 1000000 ∧ xs.length * k.toNat ≤ big then some (.lst (rep k.toNat xs)) else none
  | _, _, _ => none
def inS (x : D) (ys : List D) : Option Bool := match x.sc, scs ys with
  | some v, some vs => some (L2.inV v vs)
  | _, _ => none
/-- a dict's keys: is it there; its keys, its values with another one -/
def hasK (ks : List L2.Key) (j : L2.Key) : Bool := ks.any fun k => decide (k = j)
def lkK {α : Type} : List L2.Key → List α → L2.Key → Option α
  | k :: ks, x :: xs, j => if k = j then some x else lkK ks xs j
  | _, _, _ => none
def putKs (ks : List L2.Key) (j : L2.Key) : List L2.Key := if hasK ks j then ks else ks ++ [j]
def swapD {α : Type} (j : L2.Key) (y : α) : List L2.Key → List α → List α
  | k :: ks, x :: xs => (if k = j then y else x) :: swapD j y ks xs
  | _, _ => []
def putDs {α : Type} (ks : List L2.Key) (xs : List α) (j : L2.Key) (y : α) : List α := if hasK ks j then swapD j y ks xs else xs ++ [y]
def mergeD {α : Type} : List L2.Key → List α → List L2.Key → List α → List L2.Key × List α
  | ks, xs, j :: js, y :: ys => mergeD (putKs ks j) (putDs ks xs j y) js ys
  | ks, xs, _, _ => (ks, xs)
/-- a text in a text -/
def inT (x : D) (b : Str) : Option Bool := match x with
  | .str a => some (!(Builtin.Str.occurrences b a 0 b.length 1).isEmpty)
  | _ => none
def D.isNon : D → Bool
  | .non => true
  | _ => false
def cmpV (o : CmpOp) (x y : D) : Option D := match o with
  | .Eq => (D.eq x y).map .bl
  | .NotEq => (D.eq x y).map fun b => .bl (!b)
  | .Lt => match x, y with | .int i, .int j => some (.bl (decide (i < j))) | _, _ => none
  | .LtE => match x, y with | .int i, .int j => some (.bl (decide (i ≤ j))) | _, _ => none
  | .Gt => match x, y with | .int i, .int j => some (.bl (decide (j < i))) | _, _ => none
  | .GtE => match x, y with | .int i, .int j => some (.bl (decide (j ≤ i))) | _, _ => none
  | .In => match y with | .tup ys => (inS x ys).map .bl | .lst ys => (inS x ys).map .bl | .str b => (inT x b).map .bl | .dic ks _ => x.key.map fun j => .bl (hasK ks j) | _ => none
  | .NotIn => match y with | .tup ys => (inS x ys).map fun b => .bl (!b) | .lst ys => (inS x ys).map fun b => .bl (!b) | .str b => (inT x b).map fun k => .bl (!k) | .dic ks _ => x.key.map fun j => .bl (!hasK ks j) | _ => none
  | .Is => match y with | .non => some (.bl x.isNon) | _ => none
  | .IsNot => match y with | .non => some (.bl (!x.isNon)) | _ => none
def ixV (x y : D) : Option D := match x with
  | .dic ks xs => match y.key with | some j => lkK ks xs j | none => none
  | _ => match y with
    | .int i => match x with
      | .tup xs => L2.atI xs i
      | .lst xs => L2.atI xs i
      | .str z => if z.length ≤ big then match L2.atI z.cps.toList i with | some c => some (.str ⟨#[c]⟩) | none => none else none
      | _ => none
    | _ => none
/-- the cup's items -/
def ixC (u : Cup) (y : D) : Option D := match y with
  | .int i => L2.atI [D.int u.1, D.int u.2] i
  | _ => none
def isiV (t : Ty) : D → Option Bool
  | .non => some false
  | .bl _ => some (decide (t = .bool) || decide (t = .int))
  | .int _ => some (decide (t = .int))
  | .str _ => some (decide (t = .str))
  | .tup _ => some (decide (t = .tuple))
  | .lst _ => some (decide (t = .list))
  | .fn _ => none
  | .cup => none
  | .exc _ => none
  | .dic _ _ => none
def stl : List D → Option (List Str)
  | [] => some []
  | .str b :: xs => match stl xs with | some bs => some (b :: bs) | none => none
  | _ :: _ => none
/-! sorting -/
def insI (i : Int) : List Int → List Int
  | [] => [i]
  | j :: r => if i ≤ j then i :: j :: r else j :: insI i r
def sortI : List Int → List Int
  | [] => []
  | i :: r => insI i (sortI r)
def leS (a b : Str) : Bool := !PySem.Spec.ltCps b.cps.toList a.cps.toList
def insS (i : Str) : List Str → List Str
  | [] => [i]
  | j :: r => if leS i j then i :: j :: r else j :: insS i r
def sortS : List Str → List Str
  | [] => []
  | i :: r => insS i (sortS r)
def keysI : List L2.Key → Option (List Int)
  | [] => some []
  | .inl i :: r => match keysI r with | some is => some (i :: is) | none => none
  | _ :: _ => none
def keysS : List L2.Key → Option (List Str)
  | [] => some []
  | .inr i :: r => match keysS r with | some is => some (i :: is) | none => none
  | _ :: _ => none
def sortL (xs : List D) : Option D := match allI xs with
  | some ns => some (.lst ((sortI ns).map .int))
  | none => match stl xs with
    | some ss => if ss.length < 64 then some (.lst ((sortS ss).map .str)) else none
    | none => none
def sortK (ks : List L2.Key) : Option D := if ks.length < 64 then match keysI ks with
  | some ns => some (.lst ((sortI ns).map .int))
  | none => match keysS ks with
    | some ss => some (.lst ((sortS ss).map .str))
    | none => none else none
/-- the pairs of a dict to be made -/
def pairsK : List D → Option (List L2.Key × List D)
  | [] => some ([], [])
  | .tup [k, y] :: r => match k.key, pairsK r with | some j, some (js, ys) => some (j :: js, y :: ys) | _, _ => none
  | _ :: _ => none
def biV (b : Bi) (xs : List D) : Option D := match b, xs with
  | .len, [.tup ys] => some (.int (ys.length : Int))
  | .len, [.lst ys] => some (.int (ys.length : Int))
  | .len, [.str z] => if z.length ≤ big then some (.int (z.length : Int)) else none
  | .abs, [.int i] => some (.int (if i < 0 then -i else i))
  | .int, [.int i] => some (.int i)
  | .tuple, [.tup ys] => some (.tup ys)
  | .tuple, [.lst ys] => some (.tup ys)
  | .list, [.tup ys] => some (.lst ys)
  | .list, [.lst ys] => some (.lst ys)
  | .all, [.lst ys] => (bls ys).map fun bs => .bl (bs.all id)
  | .any, [.lst ys] => (bls ys).map fun bs => .bl (bs.any id)
  | .sum, [.lst ys] => (allI ys).map fun ns => .int ns.sum
  | .gcd, [.int i, .int j] => some (.int ((Nat.gcd i.natAbs j.natAbs : Nat) : Int))
  | .max, [.lst ys] => match allI ys with | some (n :: ns) => some (.int (ns.foldl max n)) | _ => none
  | .max, [.tup ys] => match allI ys with | some (n :: ns) => some (.int (ns.foldl max n)) | _ => none
  | .min, [.lst ys] => match allI ys with | some (n :: ns) => some (.int (ns.foldl min n)) | _ => none
  | .min, [.tup ys] => match allI ys with | some (n :: ns) => some (.int (ns.foldl min n)) | _ => none
  | .sorted, [.lst ys] => sortL ys
  | .sorted, [.dic ks _] => sortK ks
  | .dict, [.lst ps] => match pairsK ps with | some (js, ys) => some (.dic (mergeD [] [] js ys).1 (mergeD [] [] js ys).2) | none => none
  | .str, [.int i] => if i.natAbs.log2 < 1920 then some (.str (toString i)) else none
  | _, _ => none
/-- X.get(k), X.get(k, d) -/
def dgetV (x : D) (es : List D) : Option D := match x with
  | .dic ks xs => match es with
    | [k] => match k.key with | some j => some ((lkK ks xs j).getD .non) | none => none
    | [k, d] => match k.key with | some j => some ((lkK ks xs j).getD d) | none => none
    | _ => none
  | _ => none
/-- sorted(set(xs)), ints -/
def dedI : List Int → List Int
  | [] => []
  | i :: r => if dedI r |>.contains i then dedI r else i :: dedI r
def ssetV (x : D) : Option D := match x with
  | .lst xs => if xs.length < 64 then match allI xs with | some ns => some (.lst ((sortI (dedI ns)).map .int)) | none => none else none
  | _ => none
/-- a .. b - 1 -/
def range2 (a b : Int) : List D := (List.range (b - a).toNat).map fun (k : Nat) => D.int (a + (k : Int))
def smallI (a : Int) : Bool := decide (-1000000 ≤ a) && decide (a ≤ 1000000)
def lrgV (x y : D) : Option D := match x, y with
  | .int a, .int b => if smallI a && smallI b then some (.lst (range2 a b)) else none
  | _, _ => none
/-- the part of a pop: the last of a list; what it is, at a place of a list or a tuple -/
def popAt (t d : D) : Option D := match t, d with
  | .tup xs, .int i => L2.atI xs i
  | .lst xs, .int i => L2.atI xs i
  | _, _ => none
def joinV (a : Str) (y : D) : Option D := match y with
    | .lst ds => match stl ds with | some ys => if (ys.map (·.length)).sum + ys.length * a.length ≤ 16777216 then some (.str (Txt.join a ys)) else none | none => none
    | _ => none
def signs (z : Str) : List D := z.cps.toList.map fun c => D.str ⟨#[c]⟩
def D.items : D → Option (List D)
  | .tup xs => some xs
  | .lst xs => some xs
  | _ => none
def sgnV : D → Option D
  | .str z => if z.length ≤ big then some (.lst (signs z)) else none
  | _ => none
/-- a module's dict: the value at a key -/
def kgetV (t : List (Str × D)) : List D → Option D
  | [.str z] => some ((t.lookup z).getD .non)
  | [.str z, d] => some ((t.lookup z).getD d)
  | _ => none
/-- slices -/
def cutG {α : Type} (xs : List α) (lo hi : Option Int) : List α := (xs.drop (HT.sIx xs.length 0 lo)).take (HT.sIx xs.length xs.length hi - HT.sIx xs.length 0 lo)
def slV (x : D) (l : Option Int) (hi : Option (Option Int)) : Option D := match hi with
  | some h => match x with
    | .tup xs => some (.tup (cutG xs l h))
    | .lst xs => some (.lst (cutG xs l h))
    | .str z => if z.length ≤ big then some (.str (L2.cutS z l h)) else none
    | _ => none
  | none => none
def pairs : Nat → List D → List D
  | _, [] => []
  | i, x :: xs => .tup [.int (i : Int), x] :: pairs (i + 1) xs
/-- enumerate -/
def enuV : D → Option D
  | .lst xs => some (.lst (pairs 0 xs))
  | .tup xs => some (.lst (pairs 0 xs))
  | _ => none
def lseV : D → Option D
  | .tup xs => if xs.length ≤ big then some (.lst (pairs 0 xs)) else none
  | _ => none
def idxV (x y : D) : Option D := match x with
  | .lst ys => match y.sc, scs ys with
    | some v, some vs => match vs.findIdx? fun z => L2.eqV z v with
      | some j => some (.int (j : Int))
      | none => none
    | _, _ => none
  | _ => none
def evens : List D → List D
  | x :: _ :: r => x :: evens r
  | _ => []
def odds : List D → List D
  | _ :: y :: r => y :: odds r
  | _ => []
def dicV (ds : List D) : Option D := match keys (evens ds) with
  | some js => if ds.length = 2 * js.length ∧ js.length ≤ 15 then some (.dic (mergeD [] [] js (odds ds)).1 (mergeD [] [] js (odds ds)).2) else none
  | none => none
def range (n : Int) : List D := (List.range n.toNat).map fun (k : Nat) => D.int (0 + (k : Int))

/-! ### slots -/
mutual
def Tg.put : Tg → D → En → Option En
  | .n i, d, env => some (env.set i (some (false, d)))
  | .t ts, d, env => match d with
    | .tup ds => Tg.puts ts ds env
    | _ => none
def Tg.puts : List Tg → List D → En → Option En
  | [], [], env => some env
  | x :: xs, d :: ds, env => match x.put d env with
    | some env' => Tg.puts xs ds env'
    | none => none
  | _, _, _ => none
end
mutual
def Tg.slots : Tg → List Nat
  | .n i => [i]
  | .t ts => Tg.slotss ts
def Tg.slotss : List Tg → List Nat
  | [] => []
  | x :: xs => x.slots ++ Tg.slotss xs
end
def wipeE (env : En) : List Nat → En
  | [] => env
  | v :: vs => (wipeE env vs).set v none
def frz (is : List Nat) (i : Nat) : Sl → Sl
  | some (b, d) => some (b && !is.contains i, d)
  | none => none
def freeze (is : List Nat) (env : En) : En := env.mapIdx fun i s => frz is i s
/-! the slots that an expression reads -/
mutual
def Ex.fv : Ex → List Nat
  | .v i => [i]
  | .c _ | .g _ _ | .f _ => []
  | .tup es | .lst es | .bop _ es | .call _ es | .bi _ es => Ex.fvs es
  | .callv i es => i :: Ex.fvs es
  | .bin _ x y | .cmp _ x y | .ix x y | .zip x y | .join x y => x.fv ++ y.fv
  | .isE i _ _ => [i]
  | .kget _ _ es => Ex.fvs es
  | .sl x y z => x.fv ++ (y.fv ++ z.fv)
  | .enu x | .lse x | .sgn x => x.fv
  | .idx x y => x.fv ++ y.fv
  | .dic es => Ex.fvs es
  | .rng2 x y | .lrg x y => x.fv ++ y.fv
  | .dget x es => x.fv ++ Ex.fvs es
  | .sset x => x.fv
  | .never => []
  | .neg x | .not x | .isi x _ | .rng x | .err x => x.fv
  | .ch _ _ x y z | .ite x y z => x.fv ++ (y.fv ++ z.fv)
  | .lc own _ src ifs elt => src.fv ++ (Ex.fvs ifs ++ elt.fv).filter fun i => !own.contains i
def Ex.fvs : List Ex → List Nat
  | [] => []
  | e :: es => e.fv ++ Ex.fvs es
end
/-- a slice's part: left out, or an int -/
def isNonC : Ex → Bool
  | .c .non => true
  | _ => false
def partE (e : Ex) (d : D) : Option (Option Int) := if isNonC e then some none else match d with | .int i => some (some i) | _ => none
/-- does it make a new list -/
def Ex.fresh : Ex → Bool
  | .lst _ => true
  | .bin .Add _ _ => true
  | .bin .Mult _ _ => true
  | .lc .. => true
  | .sl .. => true
  | .lse _ => true
  | .bi .list _ => true
  | .bi .sorted _ => true
  | .bi .dict _ => true
  | .dic _ => true
  | .lrg _ _ => true
  | .sset _ => true
  | _ => false

/-- the slots that a for freezes -/
def Ex.fz (e : Ex) (d : D) : List Nat := if e.fresh && d.ownable then [] else e.fv
/-! ### expressions -/
def optCons (y : Option D) (ys : List D) : List D := match y with
  | some z => z :: ys
  | none => ys
def lcLoop (f : D → Cup → Re (Option D)) : List D → Cup → Re (List D)
  | [], u => .ok [] u
  | x :: xs, u => (f x u).bind fun y u1 => (lcLoop f xs u1).bind fun ys u2 => .ok (optCons y ys) u2
def noExc {α : Type} : Re α → Re α
  | .exc _ _ => .bad
  | r => r
def lift {α : Type} (o : Option α) (u : Cup) : Re α := match o with | some a => .ok a u | none => .bad
def ixR (x y : D) (u : Cup) : Re D := match x with
  | .cup => lift (ixC u y) u
  | _ => lift (ixV x y) u
/-- what the law's words for an error's class are -/
abbrev Words := Nat → Option Str
section
variable (wd : Words) (nw : Str) (call : Nat → List D → Cup → Re D)
mutual
def evE : Ex → En → Cup → Re D
  | .v i, env, u => match env[i]? with
    | some (some (_, d)) => .ok d u
    | _ => .bad
  | .c d, _, u => .ok d u
  | .g _ d, _, u => .ok d u
  | .f k, _, u => .ok (.fn k) u
  | .tup es, env, u => (evL es env u).bind fun ds u1 => if ds.length ≤ big then .ok (.tup ds) u1 else .bad
  | .lst es, env, u => (evL es env u).bind fun ds u1 => if ds.length ≤ big then .ok (.lst ds) u1 else .bad
  | .bin o a b, env, u => (evE a env u).bind fun x u1 => (evE b env u1).bind fun y u2 => lift (binV o x y) u2
  | .neg a, env, u => (evE a env u).bind fun x u1 => match x with | .int i => .ok (.int (-i)) u1 | _ => .bad
  | .not a, env, u => (evE a env u).bind fun x u1 => match x with | .bl b => .ok (.bl (!b)) u1 | _ => .bad
  | .cmp o a b, env, u => (evE a env u).bind fun x u1 => (evE b env u1).bind fun y u2 => lift (cmpV o x y) u2
  | .ch o o' a b c, env, u => (evE a env u).bind fun x u1 => (evE b env u1).bind fun y u2 => match cmpV o x y with
    | some (.bl true) => (evE c env u2).bind fun z u3 => lift (cmpV o' y z) u3
    | some (.bl false) => .ok (.bl false) u2
    | _ => .bad
  | .bop o es, env, u => evB o es env u
  | .ite c a b, env, u => (evE c env u).bind fun x u1 => match x with
    | .bl true => evE a env u1
    | .bl false => evE b env u1
    | _ => .bad
  | .ix a b, env, u => (evE a env u).bind fun x u1 => (evE b env u1).bind fun y u2 => ixR x y u2
  | .call k es, env, u => (evL es env u).bind fun ds u1 => call k ds u1
  | .callv i es, env, u => match env[i]? with
    | some (some (_, .fn k)) => (evL es env u).bind fun ds u1 => call k ds u1
    | _ => .bad
  | .bi b es, env, u => (evL es env u).bind fun ds u1 => lift (biV b ds) u1
  | .isi a t, env, u => (evE a env u).bind fun x u1 => match isiV t x with | some b => .ok (.bl b) u1 | none => .bad
  | .rng a, env, u => (evE a env u).bind fun x u1 => match x with
    | .int n => if -4611686018427387904 ≤ n ∧ n < 4611686018427387904 then .ok (.lst (range n)) u1 else .bad
    | _ => .bad
  | .zip a b, env, u => (evE a env u).bind fun x u1 => (evE b env u1).bind fun y u2 => match x, y with
    | .lst xs, .lst ys => .ok (.lst ((xs.zip ys).map fun p => .tup [p.1, p.2])) u2
    | .tup xs, .tup ys => .ok (.lst ((xs.zip ys).map fun p => .tup [p.1, p.2])) u2
    | .lst xs, .tup ys => .ok (.lst ((xs.zip ys).map fun p => .tup [p.1, p.2])) u2
    | .tup xs, .lst ys => .ok (.lst ((xs.zip ys).map fun p => .tup [p.1, p.2])) u2
    | _, _ => .bad
  | .lc own tg src ifs elt, env, u => (evE src env u).bind fun x u1 => match x.items with
    | some xs => noExc ((lcLoop (fun d u2 => match tg.put d (wipeE env own) with
        | some env2 => (evB .And ifs env2 u2).bind fun t u3 => match t with
          | .bl true => (evE elt env2 u3).bind fun y u4 => .ok (some y) u4
          | .bl false => .ok none u3
          | _ => .bad
        | none => .bad) xs u1).bind fun ys u5 => if xs.length ≤ big then .ok (.lst ys) u5 else .bad)
    | none => .bad
  | .err e, env, u => match evE e env u with
    | .ok _ u1 => .ok (.str nw) u1
    | .exc k u1 => match wd k with | some x => .ok (.str x) u1 | none => .bad
    | .bad => .bad
  | .isE i t _, env, u => match env[i]? with
    | some (some (_, .exc j)) => match t.lookup j with | some b => .ok (.bl b) u | none => .bad
    | _ => .bad
  | .join a b, env, u => (evE a env u).bind fun x u1 => match x with
    | .str s => (evE b env u1).bind fun y u2 => lift (joinV s y) u2
    | _ => .bad
  | .kget _ t es, env, u => (evL es env u).bind fun ds u1 => lift (kgetV t ds) u1
  | .sl a lo hi, env, u => (evE a env u).bind fun x u1 => (evE lo env u1).bind fun l u2 => match partE lo l with
    | some l' => (evE hi env u2).bind fun h u3 => lift (slV x l' (partE hi h)) u3
    | none => .bad
  | .enu a, env, u => (evE a env u).bind fun x u1 => lift (enuV x) u1
  | .sgn a, env, u => (evE a env u).bind fun x u1 => lift (sgnV x) u1
  | .lse a, env, u => (evE a env u).bind fun x u1 => lift (lseV x) u1
  | .idx a b, env, u => (evE a env u).bind fun x u1 => match x with
    | .lst xs => (evE b env u1).bind fun y u2 => lift (idxV (.lst xs) y) u2
    | _ => .bad
  | .dic es, env, u => (evL es env u).bind fun ds u1 => lift (dicV ds) u1
  | .rng2 a b, env, u => (evE a env u).bind fun x u1 => (evE b env u1).bind fun y u2 => lift (lrgV x y) u2
  | .lrg a b, env, u => (evE a env u).bind fun x u1 => (evE b env u1).bind fun y u2 => lift (lrgV x y) u2
  | .dget a es, env, u => (evE a env u).bind fun x u1 => match x with
    | .dic ks xs => (evL es env u1).bind fun ds u2 => lift (dgetV (.dic ks xs) ds) u2
    | _ => .bad
  | .sset a, env, u => (evE a env u).bind fun x u1 => lift (ssetV x) u1
  | .never, _, _ => .bad
def evL : List Ex → En → Cup → Re (List D)
  | [], _, u => .ok [] u
  | e :: es, env, u => (evE e env u).bind fun d u1 => (evL es env u1).bind fun ds u2 => .ok (d :: ds) u2
def evB : BoolOp → List Ex → En → Cup → Re D
  | .And, [], _, u => .ok (.bl true) u
  | .Or, [], _, u => .ok (.bl false) u
  | .And, e :: es, env, u => (evE e env u).bind fun x u1 => match x with
    | .bl true => evB .And es env u1
    | .bl false => .ok (.bl false) u1
    | _ => .bad
  | .Or, e :: es, env, u => (evE e env u).bind fun x u1 => match x with
    | .bl true => .ok (.bl true) u1
    | .bl false => evB .Or es env u1
    | _ => .bad
end

/-! ### statements -/
def ofRe (r : Re D) (f : D → Cup → SR) : SR := match r with
  | .ok d u => f d u
  | .exc k u => .exc k u
  | .bad => .bad
def setAll : List Nat → List D → En → En
  | i :: is, d :: ds, env => setAll is ds (env.set i (some (false, d)))
  | _, _, env => env
def setPar : List Nat → List Ex → List D → En → En
  | i :: is, e :: es, d :: ds, env => setPar is es ds (env.set i (some (e.fresh && d.ownable, d)))
  | _, _, _, env => env
def forLoop (f : D → En → Cup → SR) : List D → En → Cup → SR
  | [], env, u => .next env u
  | x :: xs, env, u => match f x env u with
    | .next env1 u1 => forLoop f xs env1 u1
    | r => r
def whileLoop (c : En → Cup → Re D) (b : En → Cup → SR) : Nat → En → Cup → SR
  | 0, _, _ => .bad
  | n + 1, env, u => ofRe (c env u) fun d u1 => match d with
    | .bl true => match b env u1 with
      | .next env1 u2 => whileLoop c b n env1 u2
      | r => r
    | .bl false => .next env u1
    | _ => .bad
/-- no slot of these holds a list alone -/
def unowned (env : En) (is : List Nat) : Bool := is.all fun i => match env[i]? with | some (some (true, _)) => false | _ => true
/-- behind an expression whose value is kept -/
def after (e : Ex) (d : D) (env : En) : En := if d.flat || (e.fresh && d.ownable) then env else freeze e.fv env
mutual
def evS : Sx → En → Cup → SR
  | .set i e, env, u => ofRe (evE wd nw call e env u) fun d u1 => .next ((after e d env).set i (some (e.fresh && d.ownable, d))) u1
  | .asg ts e, env, u => ofRe (evE wd nw call e env u) fun d u1 => match (Tg.t ts).put d (after e d env) with
    | some env1 => .next env1 u1
    | none => .bad
  | .par is es, env, u => match evL wd nw call es env u with
    | .ok ds u1 => if (es.zip ds).all (fun p => (p.1.fresh && p.2.ownable) || p.2.flat || unowned env p.1.fv) then .next (setPar is es ds env) u1 else .bad
    | .exc k u1 => .exc k u1
    | .bad => .bad
  | .sub i k e, env, u => match env[i]? with
    | some (some (_, .cup)) => ofRe (evE wd nw call e env u) fun d u1 => ofRe (evE wd nw call k env u1) fun y u2 => match y, d with
      | .int 0, .int z => .next env (z, u2.2)
      | .int 1, .int z => .next env (u2.1, z)
      | _, _ => .bad
    | some (some (true, .dic ks xs)) => ofRe (evE wd nw call e env u) fun d u1 => ofRe (evE wd nw call k env u1) fun y u2 => match y.key with
      | some j => if d.flat && decide (ks.length < big) then .next (env.set i (some (true, .dic (putKs ks j) (putDs ks xs j d)))) u2 else .bad
      | none => .bad
    | some (some (true, .lst xs)) => ofRe (evE wd nw call e env u) fun d u1 => ofRe (evE wd nw call k env u1) fun y u2 => match y with
      | .int n => match L2.ixN xs.length n with
        | some j => if d.flat then .next (env.set i (some (true, .lst (xs.set j d)))) u2 else .bad
        | none => .bad
      | _ => .bad
    | _ => .bad
  | .app i e, env, u => match env[i]? with
    | some (some (true, .lst xs)) => ofRe (evE wd nw call e env u) fun d u1 => if d.flat && decide (xs.length < big) then .next (env.set i (some (true, .lst (xs ++ [d])))) u1 else .bad
    | _ => .bad
  | .exp e, env, u => ofRe (evE wd nw call e env u) fun d u1 => .next env u1
  | .ret e, env, u => ofRe (evE wd nw call e env u) fun d u1 => .ret d u1
  | .ite c a b, env, u => ofRe (evE wd nw call c env u) fun d u1 => match d with
    | .bl true => evSs a env u1
    | .bl false => evSs b env u1
    | _ => .bad
  | .for_ tg src body, env, u => ofRe (evE wd nw call src env u) fun d u1 => match d.items with
    | some xs => forLoop (fun x env1 u2 => match tg.put x env1 with
      | some env2 => evSs body env2 u2
      | none => .bad) xs (freeze (src.fz d) env) u1
    | none => .bad
  | .while_ c body, env, u => whileLoop (fun env u => evE wd nw call c env u) (fun env u => evSs body env u) 4096 env u
  | .pop tg i, env, u => match env[i]? with
    | some (some (true, .lst xs)) => match xs[xs.length - 1]? with
      | some d => match tg.put d (env.set i (some (true, .lst xs.dropLast))) with
        | some env1 => .next env1 u
        | none => .bad
      | none => .bad
    | _ => .bad
  | .forP tg k x i body, env, u => match env[i]?, env[x]? with
    | some (some (true, .lst xs)), some (some (_, t)) => match xs[xs.length - 1]? with
      | some d => match popAt t d with
        | some y => ofRe (call k [y] u) fun r u1 => match r.items with
          | some ys => forLoop (fun z env1 u2 => match tg.put z env1 with
            | some env2 => evSs body env2 u2
            | none => .bad) ys (freeze [x] (env.set i (some (true, .lst xs.dropLast)))) u1
          | none => .bad
        | none => .bad
      | none => .bad
    | _, _ => .bad
  | .raise k, _, u => .exc k u
  | .pass, env, u => .next env u
def evSs : List Sx → En → Cup → SR
  | [], env, u => .next env u
  | s :: ss, env, u => match evS s env u with
    | .next env1 u1 => evSs ss env1 u1
    | r => r
end
end

/-- a def: its parameters' and its names' number, its body -/
structure FD where
  np : Nat
  nn : Nat
  body : List Sx
def start (ds : List D) (nn : Nat) : En := ds.map (fun d => some (false, d)) ++ List.replicate (nn - ds.length) none
def run (wd : Words) (nw : Str) (P : List FD) : Nat → Nat → List D → Cup → Re D
  | 0, _, _, _ => .bad
  | n + 1, k, ds, u => match P[k]? with
    | some fd => if ds.length = fd.np then
        match evSs wd nw (run wd nw P n) fd.body (start ds fd.nn) u with
        | .next _ u1 => .ok .non u1
        | .ret d u1 => .ok d u1
        | .exc j u1 => .exc j u1
        | .bad => .bad
      else .bad
    | none => .bad
end Ev

/-! How the evaluator's values stand in the layer's heap. -/
namespace Ev
open PySem PySem.Spec PyProof.Rows L2 LamX

/-- what the whole program gives: the written part, the module's names, the defs' and the classes' addresses, the tables of code objects -/
structure G where
  K : PySem.W.Frag
  mg : Str → Option Value
  fa : Nat → Addr
  ca : Nat → Addr
  T : List (Addr × Str)
  kn : Nat → Prop
  /-- the exception that is handled, its class -/
  xa : Addr
  xk : Nat

/-- what may change -/
inductive Mu : HO → Prop where
  | lst (xs : List V) : Mu (.lst xs)
  | dK (kvs : List (L2.Key × V)) : Mu (.dK kvs)
def IsMu (H : Hp) (a : Addr) : Prop := ∃ o, Mu o ∧ H a = some o
/-- nothing that may change is at a -/
def NL (H : Hp) (a : Addr) : Prop := ¬ IsMu H a
theorem NL.lst {H : Hp} {a : Addr} {xs : List V} (n : NL H a) (h : H a = some (.lst xs)) : False := n ⟨_, .lst xs, h⟩
theorem NL.mu {H : Hp} {a : Addr} {o : HO} (n : NL H a) (m : Mu o) (h : H a = some o) : False := n ⟨_, m, h⟩
theorem IsMu.lst {H : Hp} {a : Addr} {xs : List V} (h : H a = some (.lst xs)) : IsMu H a := ⟨_, .lst xs, h⟩
theorem NL.of {H : Hp} {a : Addr} (h : H a = none) : NL H a := fun ⟨o, _, e⟩ => by
  rw [h] at e
  cases e
theorem Mu.notT {o : HO} (m : Mu o) : ∀ ps, o ≠ .tbl ps := fun ps e => by
  cases m <;> cases e
mutual
/-- the value v is d at the heap H; C is the cup's address; all lists within lie in A -/
def Rp (g : G) (C : Addr) (H : Hp) (A : Addr → Prop) : D → V → Prop
  | .non, v => v = .non
  | .bl b, v => v = .bl b
  | .int i, v => v = .int i
  | .str x, v => v = .str x
  | .tup ds, v => ∃ a vs, v = .ref a ∧ SqT g.K H a vs ∧ Rps g C H A ds vs
  | .lst ds, v => ∃ a vs, v = .ref a ∧ H a = some (.lst vs) ∧ A a ∧ a ≠ C ∧ Rps g C H A ds vs
  | .fn k, v => g.kn k ∧ v = .ref (g.fa k)
  | .cup, v => v = .ref C
  | .exc k, v => v = .ref g.xa ∧ k = g.xk
  | .dic ks ds, v => ∃ a vs, v = .ref a ∧ H a = some (.dK (ks.zip vs)) ∧ A a ∧ a ≠ C ∧ ks.length = vs.length ∧ Rps g C H A ds vs
def Rps (g : G) (C : Addr) (H : Hp) (A : Addr → Prop) : List D → List V → Prop
  | [], vs => vs = []
  | d :: ds, vs => ∃ v r, vs = v :: r ∧ Rp g C H A d v ∧ Rps g C H A ds r
end

section
variable {g : G} {C : Addr} {H H' : Hp} {A A' : Addr → Prop}
mutual
theorem Rp.move (ht : ∀ a vs, SqT g.K H a vs → SqT g.K H' a vs) (hl : ∀ a o, Mu o → H a = some o → A a → a ≠ C → H' a = some o ∧ A' a) :
    ∀ (d : D) (v : V), Rp g C H A d v → Rp g C H' A' d v
  | .non, v, h => h
  | .bl b, v, h => h
  | .int i, v, h => h
  | .str x, v, h => h
  | .tup ds, v, h => by
    obtain ⟨a, vs, e, h1, h2⟩ := h
    exact ⟨a, vs, e, ht _ _ h1, Rps.move ht hl ds vs h2⟩
  | .lst ds, v, h => by
    obtain ⟨a, vs, e, h1, h2, h3, h4⟩ := h
    obtain ⟨k1, k2⟩ := hl _ _ (.lst _) h1 h2 h3
    exact ⟨a, vs, e, k1, k2, h3, Rps.move ht hl ds vs h4⟩
  | .fn k, v, h => h
  | .cup, v, h => h
  | .exc k, v, h => h
  | .dic ks ds, v, h => by
    obtain ⟨a, vs, e, h1, h2, h3, h5, h4⟩ := h
    obtain ⟨k1, k2⟩ := hl _ _ (.dK _) h1 h2 h3
    exact ⟨a, vs, e, k1, k2, h3, h5, Rps.move ht hl ds vs h4⟩
theorem Rps.move (ht : ∀ a vs, SqT g.K H a vs → SqT g.K H' a vs) (hl : ∀ a o, Mu o → H a = some o → A a → a ≠ C → H' a = some o ∧ A' a) :
    ∀ (ds : List D) (vs : List V), Rps g C H A ds vs → Rps g C H' A' ds vs
  | [], vs, h => h
  | d :: ds, vs, h => by
    obtain ⟨v, r, e, h1, h2⟩ := h
    exact ⟨v, r, e, Rp.move ht hl d v h1, Rps.move ht hl ds r h2⟩
end
mutual
theorem Rp.ofFlat : ∀ (d : D) (v : V), d.flat = true → Rp g C H A d v → Rp g C H A' d v
  | .non, v, _, h => h
  | .bl b, v, _, h => h
  | .int i, v, _, h => h
  | .str x, v, _, h => h
  | .tup ds, v, f, h => by
    obtain ⟨a, vs, e, h1, h2⟩ := h
    exact ⟨a, vs, e, h1, Rps.ofFlat ds vs (by simpa [D.flat] using f) h2⟩
  | .lst ds, v, f, h => by simp [D.flat] at f
  | .fn k, v, _, h => h
  | .cup, v, _, h => h
  | .exc k, v, _, h => h
  | .dic ks ds, v, f, h => by simp [D.flat] at f
theorem Rps.ofFlat : ∀ (ds : List D) (vs : List V), D.flats ds = true → Rps g C H A ds vs → Rps g C H A' ds vs
  | [], vs, _, h => h
  | d :: ds, vs, f, h => by
    obtain ⟨v, r, e, h1, h2⟩ := h
    simp only [D.flats, Bool.and_eq_true] at f
    exact ⟨v, r, e, Rp.ofFlat d v f.1 h1, Rps.ofFlat ds r f.2 h2⟩
end
theorem Rps.length : ∀ {ds : List D} {vs : List V}, Rps g C H A ds vs → ds.length = vs.length
  | [], vs, h => by
    have e : vs = [] := h
    rw [e]
    rfl
  | d :: ds, vs, h => by
    obtain ⟨v, r, e, h1, h2⟩ := h
    rw [e, List.length_cons, List.length_cons, Rps.length h2]
theorem Rps.get : ∀ {ds : List D} {vs : List V} {i : Nat} {d : D}, Rps g C H A ds vs → ds[i]? = some d → ∃ v, vs[i]? = some v ∧ Rp g C H A d v
  | [], vs, i, d, h, e => by simp at e
  | x :: ds, vs, 0, d, h, e => by
    obtain ⟨v, r, rfl, h1, h2⟩ := h
    simp at e
    subst e
    exact ⟨v, rfl, h1⟩
  | x :: ds, vs, i + 1, d, h, e => by
    obtain ⟨v, r, rfl, h1, h2⟩ := h
    obtain ⟨w, e1, e2⟩ := Rps.get (i := i) (d := d) h2 (by simpa using e)
    exact ⟨w, by simpa using e1, e2⟩
theorem Rps.app : ∀ {ds es : List D} {vs ws : List V}, Rps g C H A ds vs → Rps g C H A es ws → Rps g C H A (ds ++ es) (vs ++ ws)
  | [], es, vs, ws, h, k => by
    have e : vs = [] := h
    subst e
    exact k
  | d :: ds, es, vs, ws, h, k => by
    obtain ⟨v, r, rfl, h1, h2⟩ := h
    exact ⟨v, r ++ ws, rfl, h1, Rps.app h2 k⟩
theorem Rps.rep {ds : List D} {vs : List V} (h : Rps g C H A ds vs) : ∀ k : Nat, Rps g C H A (Ev.rep k ds) (List.replicate k vs).flatten
  | 0 => rfl
  | k + 1 => by
    unfold Ev.rep
    rw [List.replicate_succ, List.replicate_succ, List.flatten_cons, List.flatten_cons]
    exact h.app (Rps.rep h k)
theorem Rps.one {d : D} {v : V} (h : Rp g C H A d v) : Rps g C H A [d] [v] := ⟨v, [], rfl, h, rfl⟩
theorem Rp.mono (hA : ∀ a, A a → A' a) {d : D} {v : V} (h : Rp g C H A d v) : Rp g C H A' d v := Rp.move (fun _ _ x => x) (fun a o _ h1 h2 _ => ⟨h1, hA a h2⟩) d v h
theorem Rps.mono (hA : ∀ a, A a → A' a) {ds : List D} {vs : List V} (h : Rps g C H A ds vs) : Rps g C H A' ds vs := Rps.move (fun _ _ x => x) (fun a o _ h1 h2 _ => ⟨h1, hA a h2⟩) ds vs h
end

/-- all that was tracked is as it was, but the cup and the tables -/
structure Ext (C : Addr) (H H' : Hp) : Prop where
  cup : ∃ xs, H C = some (.lst xs)
  cup2 : ∃ xs, H' C = some (.lst xs)
  keep : ∀ b o, H b = some o → b ≠ C → (∀ ps, o ≠ .tbl ps) → H' b = some o
theorem Ext.free {C : Addr} {H H' : Hp} (x : Ext C H H') (b : Addr) (n : NL H' b) : NL H b := fun ⟨o, m, e⟩ => by
  by_cases h : b = C
  · obtain ⟨xs, k⟩ := x.cup2
    exact n.lst (xs := xs) (by rw [h]; exact k)
  · exact n.mu m (x.keep b _ e h m.notT)
/-- the cup and the tables are well -/
structure Wd (g : G) (C : Addr) (H : Hp) (u : Cup) : Prop where
  cup : H C = some (.lst [.int u.1, .int u.2])
  tabs : Tabs g.T H
section
variable {g : G} {C : Addr} {H H1 H2 H' : Hp} {A A' : Addr → Prop} {u u' : Cup}
theorem Wd.refl (w : Wd g C H u) : Ext C H H := ⟨⟨_, w.cup⟩, ⟨_, w.cup⟩, fun _ _ h _ _ => h⟩
theorem Ext.trans (a : Ext C H H1) (b : Ext C H1 H2) : Ext C H H2 := ⟨a.cup, b.cup2, fun c o h n m => b.keep c o (a.keep c o h n m) n m⟩
theorem Ext.sqT {K : PySem.W.Frag} (x : Ext C H H') {a : Addr} {vs : List V} (h : SqT K H a vs) : SqT K H' a vs := by
  obtain ⟨xs, hc⟩ := x.cup
  rcases h with (h | ⟨o, h⟩) | h
  · exact .inl (.inl (x.keep _ _ h (fun e => by rw [e, hc] at h; cases h) (fun ps e => by cases e)))
  · exact .inl (.inr ⟨o, x.keep _ _ h (fun e => by rw [e, hc] at h; cases h) (fun ps e => by cases e)⟩)
  · exact .inr h
theorem Ext.lst (x : Ext C H H') {a : Addr} {vs : List V} (h : H a = some (.lst vs)) (n : a ≠ C) : H' a = some (.lst vs) := x.keep _ _ h n (fun ps e => by cases e)
theorem Ext.mu (x : Ext C H H') {a : Addr} {o : HO} (m : Mu o) (h : H a = some o) (n : a ≠ C) : H' a = some o := x.keep _ _ h n m.notT
theorem Ext.isMu (x : Ext C H H') {a : Addr} (h : IsMu H a) : IsMu H' a := by
  obtain ⟨o, m, e⟩ := h
  by_cases z : a = C
  · obtain ⟨xs, k⟩ := x.cup2
    exact ⟨_, .lst xs, by rw [z]; exact k⟩
  · exact ⟨o, m, x.mu m e z⟩
theorem Ext.rp (x : Ext C H H') {d : D} {v : V} (h : Rp g C H A d v) : Rp g C H' A d v := Rp.move (fun _ _ k => x.sqT k) (fun a o m h1 h2 h3 => ⟨x.mu m h1 h3, h2⟩) d v h
theorem Ext.rps (x : Ext C H H') {d : List D} {v : List V} (h : Rps g C H A d v) : Rps g C H' A d v := Rps.move (fun _ _ k => x.sqT k) (fun a o m h1 h2 h3 => ⟨x.mu m h1 h3, h2⟩) d v h
/-- a new object -/
theorem Wd.new (w : Wd g C H u) {p : Addr} {o : HO} (n : H p = none) : Ext C H (upd H p o) ∧ Wd g C (upd H p o) u := by
  have k : ∀ b x, H b = some x → upd H p o b = some x := fun b x h => by
    rw [upd_ne (ne_of_none h n)]
    exact h
  exact ⟨⟨⟨_, w.cup⟩, ⟨_, k _ _ w.cup⟩, fun b x h _ _ => k b x h⟩, k _ _ w.cup, w.tabs.ext k⟩
theorem Wd.newX (w : Wd g C H u) {p : Addr} {o : HO} (n : H p = none) : Ext C H (upd H p o) := (w.new n).1
theorem Wd.newW (w : Wd g C H u) {p : Addr} {o : HO} (n : H p = none) : Wd g C (upd H p o) u := (w.new n).2
end

/-- as Ext, but the lists at B may have changed (they are lists still) -/
structure ExtB (C : Addr) (B : Addr → Prop) (H H' : Hp) : Prop where
  keep : ∀ b o, H b = some o → b ≠ C → ¬ B b → (∀ ps, o ≠ .tbl ps) → H' b = some o
  mu : ∀ b, IsMu H b → IsMu H' b
section
variable {g : G} {C : Addr} {H H1 H2 H' : Hp} {A A' B B' : Addr → Prop}
theorem Ext.toB (x : Ext C H H') : ExtB C B H H' := ⟨fun b o h n _ m => x.keep b o h n m, fun b h => x.isMu h⟩
theorem ExtB.free (x : ExtB C B H H') (b : Addr) (n : NL H' b) : NL H b := fun e => n (x.mu b e)
theorem ExtB.toE (x : ExtB C B H H') (hB : ∀ a, ¬ B a) (hc : ∃ xs, H C = some (.lst xs)) (hc2 : ∃ xs, H' C = some (.lst xs)) : Ext C H H' := ⟨hc, hc2, fun b o h n m => x.keep b o h n (hB b) m⟩
theorem ExtB.trans (a : ExtB C B H H1) (b : ExtB C B' H1 H2) (s : ∀ c, B' c → IsMu H1 c ∧ (B c ∨ NL H c)) : ExtB C B H H2 := by
  refine ⟨fun c o h n nb m => ?_, fun c h => b.mu c (a.mu c h)⟩
  have h1 := a.keep c o h n nb m
  refine b.keep c o h1 n (fun z => ?_) m
  obtain ⟨⟨o2, m2, k⟩, r⟩ := s c z
  rcases r with r | r
  · exact nb r
  · rw [h1] at k
    cases k
    exact r.mu m2 h
theorem ExtB.sqT {K : PySem.W.Frag} (x : ExtB C B H H') (hc : ∃ xs, H C = some (.lst xs)) (hB : ∀ a, B a → IsMu H a) {a : Addr} {vs : List V} (h : SqT K H a vs) : SqT K H' a vs := by
  obtain ⟨xs, hc⟩ := hc
  have nb : ∀ o, H a = some o → (¬ Mu o) → ¬ B a := fun o k m z => by
    obtain ⟨ws, q2, q⟩ := hB a z
    rw [k] at q
    cases q
    exact m q2
  rcases h with (h | ⟨o, h⟩) | h
  · exact .inl (.inl (x.keep _ _ h (fun e => by rw [e, hc] at h; cases h) (nb _ h fun e => by cases e) (fun ps e => by cases e)))
  · exact .inl (.inr ⟨o, x.keep _ _ h (fun e => by rw [e, hc] at h; cases h) (nb _ h fun e => by cases e) (fun ps e => by cases e)⟩)
  · exact .inr h
theorem ExtB.rp (x : ExtB C B H H') (hc : ∃ xs, H C = some (.lst xs)) (hB : ∀ a, B a → IsMu H a) (hA : ∀ a, A a → ¬ B a) {d : D} {v : V} (h : Rp g C H A d v) : Rp g C H' A d v :=
  Rp.move (fun _ _ k => x.sqT hc hB k) (fun a o m h1 h2 h3 => ⟨x.keep _ _ h1 h3 (hA a h2) m.notT, h2⟩) d v h
theorem ExtB.rps (x : ExtB C B H H') (hc : ∃ xs, H C = some (.lst xs)) (hB : ∀ a, B a → IsMu H a) (hA : ∀ a, A a → ¬ B a) {d : List D} {v : List V} (h : Rps g C H A d v) : Rps g C H' A d v :=
  Rps.move (fun _ _ k => x.sqT hc hB k) (fun a o m h1 h2 h3 => ⟨x.keep _ _ h1 h3 (hA a h2) m.notT, h2⟩) d v h
end

theorem SqT.upd {K : PySem.W.Frag} {H : Hp} {a b : Addr} {vs : List V} {o o' : HO} (h2 : H b = some o) (m : Mu o) (k : SqT K H a vs) : SqT K (L2.upd H b o') a vs := by
  rcases k with (k | ⟨q, k⟩) | k
  · exact .inl (.inl (by rw [upd_ne (fun z => by rw [z, h2] at k; cases k; cases m)]; exact k))
  · exact .inl (.inr ⟨q, by rw [upd_ne (fun z => by rw [z, h2] at k; cases k; cases m)]; exact k⟩)
  · exact .inr k
/-- the tables stand behind a change of what may change -/
theorem Wd.chg {g : G} {C : Addr} {H : Hp} {u : Cup} (w : Wd g C H u) {p : Addr} {o o' : HO} (h2 : H p = some o) (m : Mu o) (n : p ≠ C) : Wd g C (L2.upd H p o') u := by
  refine ⟨by rw [upd_ne n.symm]; exact w.cup, fun q hq => ?_⟩
  obtain ⟨ps, a1, a2, a3⟩ := w.tabs q hq
  refine ⟨ps, by rw [upd_ne (fun z => by rw [z, h2] at a1; cases a1; cases m)]; exact a1, a2, fun ps' cv hcv => ?_⟩
  obtain ⟨c0, b1, b2⟩ := a3 ps' cv hcv
  exact ⟨c0, b1, by rw [upd_ne (fun z => by rw [z, h2] at b2; unfold CodeO at b2; cases b2; cases m)]; exact b2⟩
/-! ### data for == -/
section
variable {g : G} {C : Addr} {H : Hp} {A : Addr → Prop}
mutual
theorem Rp.dp : ∀ (d : D) (v : V) (p : PyData), Rp g C H A d v → d.toP = some p → Dp g.K H v p
  | .non, v, p, h, e => by cases e; cases h; exact .non
  | .bl b, v, p, h, e => by cases e; cases h; exact .bl b
  | .int i, v, p, h, e => by cases e; cases h; exact .int i
  | .str x, v, p, h, e => by cases e; cases h; exact .str x
  | .tup ds, v, p, h, e => by
    obtain ⟨a, vs, rfl, h1, h2⟩ := h
    simp only [D.toP] at e
    split at e
    · rename_i ps hp
      cases e
      exact .tup h1 (Rps.dp ds vs ps h2 hp)
    · cases e
  | .lst ds, v, p, h, e => by
    obtain ⟨a, vs, rfl, h1, h3, h4, h2⟩ := h
    simp only [D.toP] at e
    split at e
    · rename_i ps hp
      cases e
      exact .lst (SqL.of h1) (Rps.dp ds vs ps h2 hp)
    · cases e
  | .fn k, v, p, h, e => by cases e
  | .cup, v, p, h, e => by cases e
  | .exc _, v, p, h, e => by cases e
  | .dic _ _, v, p, h, e => by cases e
theorem Rps.dp : ∀ (ds : List D) (vs : List V) (ps : List PyData), Rps g C H A ds vs → D.toPs ds = some ps → DpAll g.K H vs ps
  | [], vs, ps, h, e => by
    cases e
    have z : vs = [] := h
    subst z
    exact .nil
  | d :: ds, vs, ps, h, e => by
    obtain ⟨v, r, rfl, h1, h2⟩ := h
    simp only [D.toPs] at e
    split at e
    · rename_i p qs e1 e2
      cases e
      exact .cons (Rp.dp d v p h1 e1) (Rps.dp ds r qs h2 e2)
    · cases e
end
theorem Rp.sc {d : D} {v w : V} (h : Rp g C H A d v) (e : d.sc = some w) : v = w ∧ flatV w = true := by
  cases d with
  | non => cases e; cases h; exact ⟨rfl, rfl⟩
  | bl b => cases e; cases h; exact ⟨rfl, rfl⟩
  | int i => cases e; cases h; exact ⟨rfl, rfl⟩
  | str x => cases e; cases h; exact ⟨rfl, rfl⟩
  | tup ds => cases e
  | lst ds => cases e
  | fn k => cases e
  | cup => cases e
  | exc _ => cases e
  | dic _ _ => cases e
theorem Rps.scs : ∀ {ds : List D} {vs ws : List V}, Rps g C H A ds vs → scs ds = some ws → vs = ws ∧ ws.all flatV = true
  | [], vs, ws, h, e => by
    cases e
    exact ⟨h, rfl⟩
  | d :: ds, vs, ws, h, e => by
    obtain ⟨v, r, rfl, h1, h2⟩ := h
    simp only [Ev.scs] at e
    split at e
    · rename_i p qs e1 e2
      cases e
      obtain ⟨q1, q2⟩ := Rp.sc h1 e1
      obtain ⟨q3, q4⟩ := Rps.scs h2 e2
      rw [q1, q3]
      exact ⟨rfl, by rw [List.all_cons, q2, q4]; rfl⟩
    · cases e
theorem Rps.bls : ∀ {ds : List D} {vs : List V} {bs : List Bool}, Rps g C H A ds vs → bls ds = some bs → vs = bs.map V.bl
  | [], vs, bs, h, e => by
    cases e
    exact h
  | .bl b :: ds, vs, ws, h, e => by
    obtain ⟨v, r, rfl, h1, h2⟩ := h
    simp only [Ev.bls] at e
    split at e
    · rename_i qs e2
      cases e
      have q1 : v = .bl b := h1
      rw [q1, Rps.bls h2 e2]
      rfl
    · cases e
  | .non :: _, _, _, _, e => by cases e
  | .int _ :: _, _, _, _, e => by cases e
  | .str _ :: _, _, _, _, e => by cases e
  | .tup _ :: _, _, _, _, e => by cases e
  | .lst _ :: _, _, _, _, e => by cases e
  | .fn _ :: _, _, _, _, e => by cases e
  | .cup :: _, _, _, _, e => by cases e
  | .exc _ :: _, _, _, _, e => by cases e
  | .dic _ _ :: _, _, _, _, e => by cases e
theorem Rps.allI : ∀ {ds : List D} {vs : List V} {bs : List Int}, Rps g C H A ds vs → allI ds = some bs → vs = bs.map V.int
  | [], vs, bs, h, e => by
    cases e
    exact h
  | .int b :: ds, vs, ws, h, e => by
    obtain ⟨v, r, rfl, h1, h2⟩ := h
    simp only [Ev.allI] at e
    split at e
    · rename_i qs e2
      cases e
      have q1 : v = .int b := h1
      rw [q1, Rps.allI h2 e2]
      rfl
    · cases e
  | .non :: _, _, _, _, e => by cases e
  | .bl _ :: _, _, _, _, e => by cases e
  | .str _ :: _, _, _, _, e => by cases e
  | .tup _ :: _, _, _, _, e => by cases e
  | .lst _ :: _, _, _, _, e => by cases e
  | .fn _ :: _, _, _, _, e => by cases e
  | .cup :: _, _, _, _, e => by cases e
  | .exc _ :: _, _, _, _, e => by cases e
  | .dic _ _ :: _, _, _, _, e => by cases e
theorem Rps.stl : ∀ {ds : List D} {vs : List V} {bs : List Str}, Rps g C H A ds vs → stl ds = some bs → vs = bs.map V.str
  | [], vs, bs, h, e => by
    cases e
    exact h
  | .str b :: ds, vs, ws, h, e => by
    obtain ⟨v, r, rfl, h1, h2⟩ := h
    simp only [Ev.stl] at e
    split at e
    · rename_i qs e2
      cases e
      have q1 : v = .str b := h1
      rw [q1, Rps.stl h2 e2]
      rfl
    · cases e
  | .non :: _, _, _, _, e => by cases e
  | .bl _ :: _, _, _, _, e => by cases e
  | .int _ :: _, _, _, _, e => by cases e
  | .tup _ :: _, _, _, _, e => by cases e
  | .lst _ :: _, _, _, _, e => by cases e
  | .fn _ :: _, _, _, _, e => by cases e
  | .cup :: _, _, _, _, e => by cases e
  | .exc _ :: _, _, _, _, e => by cases e
  | .dic _ _ :: _, _, _, _, e => by cases e
/-- a list or a dict, its content -/
inductive Box : D → List D → HO → List V → Prop where
  | lst (ds : List D) (vs : List V) : Box (.lst ds) ds (.lst vs) vs
  | dic (ks : List L2.Key) (ds : List D) (vs : List V) (h : ks.length = vs.length) : Box (.dic ks ds) ds (.dK (ks.zip vs)) vs
theorem Box.mu {d : D} {ds : List D} {o : HO} {vs : List V} (b : Box d ds o vs) : Mu o := by
  cases b <;> constructor
theorem Box.box {d : D} {ds : List D} {o : HO} {vs : List V} (b : Box d ds o vs) : d.isBox = true ∧ d.its = ds := by
  cases b <;> exact ⟨rfl, rfl⟩
theorem Rp.ofBox {d : D} {ds : List D} {o : HO} {vs : List V} {a : Addr} (b : Box d ds o vs) (h : H a = some o) (ha : A a) (hc : a ≠ C) (r : Rps g C H A ds vs) : Rp g C H A d (.ref a) := by
  cases b with
  | lst => exact ⟨a, vs, rfl, h, ha, hc, r⟩
  | dic ks _ _ e => exact ⟨a, vs, rfl, h, ha, hc, e, r⟩
theorem Rp.box {d : D} {v : V} (r : Rp g C H A d v) (b : d.isBox = true) : ∃ a o vs, v = .ref a ∧ Box d d.its o vs ∧ H a = some o ∧ A a ∧ a ≠ C ∧ Rps g C H A d.its vs := by
  cases d <;> first | cases b | skip
  · obtain ⟨a, vs, e, h1, h2, h3, h4⟩ := r
    exact ⟨a, _, vs, e, .lst _ _, h1, h2, h3, h4⟩
  · obtain ⟨a, vs, e, h1, h2, h3, h5, h4⟩ := r
    exact ⟨a, _, vs, e, .dic _ _ _ h5, h1, h2, h3, h4⟩
theorem Rp.key {d : D} {v : V} {k : L2.Key} (r : Rp g C H A d v) (e : d.key = some k) : v = kV k := by
  cases d <;> first | cases e | skip
  · cases r; rfl
  · cases r; rfl
theorem big_le : big ≤ sizeLine := by
  rw [sizeLine_eq]
  exact Nat.le_refl _
end
end Ev

/-! A lambda handed to a def, its exceptions' context known to be None. -/
namespace LamN
open PySem PySem.Spec PyProof.Rows L2 LamX
theorem takes0 {X : Cx} : L2N.Takes X (fun _ _ _ _ => False) := fun _ _ x => by
  obtain ⟨_, _, _, _, _, _, _, _, _, _, _, _, _, _, _, _, z⟩ := x
  exact z.elim
/-- the context of the lambda's body, entered at s from the frames outer -/
def lamCx (X : Cx) (A : Around) (outer : List Env) (s : Shared) (H : Hp) (E : XK) (scope : Scope) (f c' : Addr) : Cx where
  prog := X.prog
  w := X.w
  K := X.K
  mg := X.mg
  base := X.base
  A := A.deeper (lamEnv X scope s.heap.objs.size f c')
  N := X.N
  s_0 := s
  H_0 := H
  env := lamEnv X scope s.heap.objs.size f c'
  outer := outer
  stack := lamEnv X scope s.heap.objs.size f c' :: outer
  ex := []
  fn := fun _ => false
  calm := true
  pn := []
  xe := fun e s' => wpAny (model X.prog X.w) (A.deeper (lamEnv X scope s.heap.objs.size f c')) (leaving (lamEnv X scope s.heap.objs.size f c') e) (fun _ s'' => L2N.CX X.prog X.w outer H s E e s'') (fun e' s'' => L2N.CX X.prog X.w outer H s E e' s'') s'
section
variable {X : Cx} {pins : List (Addr × Obj)} {σ : L2.St} {H HZ : Hp} {s s1 : Shared}
theorem lam_start2 {A : Around} {outer : List Env} {E : XK} {scope : Scope} {f c' : Addr} {h₁ : Heap} {tk : Nat} (I : Inv X pins σ H s) (L : LamS X.env.scope scope) (e0 : Env0 X.prog X.w X.K X.mg X.base A outer s1 HZ) (hd : A.handled = none)
    (un : Un (frs X.stack) [] H HZ s.heap s1.heap) (hns : h₁.Ns s1.heap.objs.size fun y => ([] : List (Str × Value)).reverse.lookup y) (kp : ∀ b o, s1.heap.get? b = some o → h₁.get? b = some o) :
    Inv (lamCx X A outer s1 HZ E scope f c') [] σ HZ { s1 with heap := h₁, toks := tk } := by
  have hfree := L.has I.ok
  have cm : ∀ {y c}, (cloFrom X.env.cells scope.names []).lookup y = some c → X.env.cells.lookup y = some c := fun {y c} e => by
    rcases cloFrom_mem (PySem.mem_of_lookup e) with hm | ⟨h1, h2⟩
    · cases hm
    · obtain ⟨c1, hc⟩ := hfree _ h1 rfl
      have hc : X.env.cells.lookup y = some c1 := hc
      have e2 : c = c1 := by
        rw [h2, hc] <;> rfl
      rw [e2]
      exact hc
  have look : ∀ {y}, scope.names.lookup y = some .free → ∃ c, (cloFrom X.env.cells scope.names []).lookup y = some c := fun {y} hl => by
    have hy : (y, NameKind.free) ∈ scope.names := PySem.mem_of_lookup hl
    exact mem_lookup (cloFrom_has (cells := X.env.cells) (acc := []) hy)
  have cellK : ∀ {c : Addr} {v : Option Value}, H c = none → s.heap.IsCell c v → h₁.IsCell c v := fun {c v} n ⟨o, ho, hd⟩ => by
    obtain ⟨sl, q⟩ := un.any ho n (by simp)
    exact ⟨_, kp _ _ q, hd⟩
  have noA : ∀ b : Addr, b ∉ (lamCx X A outer s1 HZ E scope f c').ex := fun b z => absurd (show b ∈ ([] : List Addr) from z) (by simp)
  refine ⟨⟨e0.mod, L.kind, rfl, rfl, Nat.le_refl _, fun y z c e1 e2 => I.ok.inj y z c (cm e1) (cm e2), fun y hy => ?_, fun y c z _ => ?_, fun _ => hd, Around.frames_deeper e0.frames, .inr ⟨rfl, rfl⟩, fun b z => absurd z (noA b), e0.bs, e0.bsz, fun b _ _ => noA b,
      fun b z => absurd z (noA b), e0.funs, e0.frf⟩,
    rfl, e0.bare, Un.kept kp, ⟨_, hns, fun i y v e1 e2 e3 => ?_⟩, fun y c e => ?_, e0.hok.fresh (Nat.le_refl _), fun y c e => ?_, fun q hq => absurd (show q ∈ ([] : List (Addr × Obj)) ++ [] from hq) (by simp), e0.hok.kept kp, I.len⟩
  · have hy : scope.names.lookup y = some .cell ∨ scope.names.lookup y = some .free := hy
    rcases hy with hy | hy
    · exact absurd rfl (L.own _ (PySem.mem_of_lookup hy)).2
    · exact look hy
  · have z : false = true := z
    cases z
  · have e3 : Vis scope y := e3
    rcases e3 with k | k | k
    · exact absurd rfl (L.own _ (PySem.mem_of_lookup k)).1
    · exact absurd rfl (L.own _ (PySem.mem_of_lookup k)).2
    · obtain ⟨m, hn, hl⟩ := I.loc
      have hvis : Vis X.env.scope y := (L.free _ (PySem.mem_of_lookup k) rfl).elim (fun k => .inr (.inl k)) (fun k => .inr (.inr k))
      obtain ⟨w', r, q⟩ := hl i y v e1 e2 hvis
      obtain ⟨c2, h2⟩ := look k
      refine ⟨w', r, .inr ⟨.inr k, c2, h2, ?_⟩⟩
      have c1 := cm h2
      rcases q with ⟨k', _⟩ | ⟨_, c3, e', z⟩
      · have k' : X.env.scope.names.lookup y = some .local := k'
        rcases L.free _ (PySem.mem_of_lookup k) rfl with k2 | k2 <;> rw [show X.env.scope.names.lookup y = _ from k2] at k' <;> cases k'
      · rw [c1] at e'
        cases e'
        exact cellK (I.freeC y _ c1) z
  · obtain ⟨w', z⟩ := I.cell y c (cm e)
    exact ⟨w', cellK (I.freeC y c (cm e)) z⟩
  · obtain ⟨v, o, ho, hd⟩ := I.cell y c (cm e)
    exact un.free c o ho (I.freeC y c (cm e)) (by simp)
/-- x(), in the def that got the lambda: Z is that def's context, entered at s -/
theorem pe_act {CXg : CXT} {Eg : XK} {Ng : List Str} {qg : Str} {sg : Scope} {g f c' : Addr} {cdg pm ctv : Value} {params : Arguments} {body : Expr} {scope : Scope} {k i : Nat} {a : Str} {pn : List (Addr × Obj)} {xe : Value → Shared → Prop} {W : WX} {E : XK} {tb : TE} {p1 p2 : Pos}
    (I : Inv X pins σ H s) (L : LamS X.env.scope scope) (hf : s.heap.get? f = some (PySem.W.kla_obj "<lambda>" (X.env.qual ++ "<lambda>") params body scope (cloFrom X.env.cells scope.names []) pm c' ctv)) (hfn : H f = none) (hfr : f ∉ frs X.stack)
    (hbind : bindArgs (PySem.W.kla_fn "<lambda>" (X.env.qual ++ "<lambda>") params body scope (cloFrom X.env.cells scope.names []) pm (.ref c') ctv) ⟨[], []⟩ = pure [])
    (tk : L2N.Takes ((cxOf CXg X.prog X.w X.K X.mg X.base Ng qg sg g cdg X.A X.stack s H Eg).tr pn xe) W) (hW : ∀ cls d (σ' : L2.St) H', σ'.length = Ng.length → E cls d H' → W cls d σ' H') (hr : Room (k + 1) (X.A.deeper (envOfC qg sg s.heap.objs.size g cdg)))
    (hbody : ∀ (A : Around) (outer : List Env) (s : Shared) (H : Hp), Room k (A.deeper (lamEnv X scope s.heap.objs.size f c')) → PE (lamCx X A outer s H E scope f c') body tb)
    (hN : Ng[i]? = some a) (hv : Vis sg a) (hd : (a == ("__debug__" : Str)) = false := by decide) (hcd : (a == ("__classdict__" : Str)) = false := by decide) :
    PE ((cxOf CXg X.prog X.w X.K X.mg X.base Ng qg sg g cdg X.A X.stack s H Eg).tr pn xe) (.Call (.Name a p1) [] [] p2)
      (fun σZ HZ Q => σZ[i]? = some (some (.ref f)) ∧ HZ c' = some (CodeO c' (X.env.qual ++ "<lambda>")) ∧ tb σ HZ Q) := by
  refine ⟨fun pinsZ sZ σZ HZ Q IZ h => ?_⟩
  obtain ⟨hs, hc, ht⟩ := h
  refine wpAny_Call_Name_kw (thn ((pe_var (pos := p1) (i := i) hN hv hd hcd).run pinsZ sZ σZ HZ (fun v H1 => v = .ref f ∧ H1 = HZ) IZ ⟨.ref f, hs, rfl, rfl⟩) fun u s1 ⟨v, H1, I1, r1, q1⟩ => ?_)
  obtain ⟨ev, eH⟩ := q1
  subst ev
  rw [eH] at I1
  obtain rfl : u = Value.ref f := r1
  have of1 : s1.heap.get? f = some (PySem.W.kla_obj "<lambda>" (X.env.qual ++ "<lambda>") params body scope (cloFrom X.env.cells scope.names []) pm c' ctv) := I1.base.keep f _ hf hfn hfr (fun z => nomatch (show f ∈ ([] : List Addr) from z))
  refine PySem.W.callWith_F0 ⟨_, _, _, _, of1⟩ ?_
  have un : Un (frs X.stack) [] H HZ s.heap s1.heap := I1.base
  obtain ⟨⟨oc, vs, t, hoc, hdc, hvc⟩, _, _⟩ := I1.hok c' _ hc
  have rc : codeAny (model X.prog X.w) (X.A.deeper (envOfC qg sg s.heap.objs.size g cdg)) (.call (.ref f) ⟨[], []⟩) (CR (L2N.CX X.prog X.w) (envOfC qg sg s.heap.objs.size g cdg :: X.stack) X.prog X.w HZ s1 Q E) s1 := by
    refine PySem.W.kla_callFunE hr.depth of1 rfl L.co L.gen rfl ⟨c', oc, vs, t, rfl, hoc, hdc, hvc⟩ ?_
    rw [hbind]
    refine wpAny_pure (wpAny_newFunctionEnv (fun y hy => (L.own y hy).2) (fun y hy => absurd hy (by simp)) (fun h₁ hns hsb => ⟨I1.nolimit.fresh _ hsb, ?_⟩) L.kind)
    show codeAny _ _ (.expr body (lamEnv X scope s1.heap.objs.size f c')) _ _
    have kp : ∀ b o, s1.heap.get? b = some o → h₁.get? b = some o := fun b o e => hsb.extBut b o (Nat.ne_of_lt (Heap.lt_size e)) (Heap.get?_push_of_some _ e)
    have J : Inv (lamCx X (X.A.deeper (envOfC qg sg s.heap.objs.size g cdg)) (envOfC qg sg s.heap.objs.size g cdg :: X.stack) s1 HZ E scope f c') [] σ HZ { s1 with heap := h₁, toks := s1.toks + ([] : List (Str × Value)).length } :=
      lam_start2 I L I1.env0 hr.hd un hns kp
    refine PySem.W.kla_codeExpr (wpAny_mono ((hbody _ _ s1 HZ (hr.deeper _)).run [] _ _ HZ Q J ht) (fun v s' hq => ?_) fun e s' hq => hq)
    obtain ⟨w', H', J', rv, q⟩ := hq
    exact ⟨w', H', J'.os, J'.bare, J'.base, J'.hok, rv, q⟩
  have hx : Passes (L2N.CX X.prog X.w) ((cxOf CXg X.prog X.w X.K X.mg X.base Ng qg sg g cdg X.A X.stack s H Eg).tr pn xe) E := fun pins σ H s e s' I c => tk e s' (L2N.XE.of_call I (fun cls d H' h => hW cls d σ H' I.len h) c)
  refine wpAny_call (codeAny_mono rc fun r s' hq => ?_)
  cases r with
  | error e => exact hx pinsZ σZ HZ s1 e s' I1 hq
  | ok fl =>
    cases fl with
    | ret u => exact I1.after hq
    | next => exact False.elim hq
    | brk => exact False.elim hq
    | cont => exact False.elim hq
end
/-- the def that calls what it got: a calls it; TT: what it makes of the lambda's reading -/
def GivesTo (X : Cx) (Ng : List Str) (x : Str) (sg : Scope) (g : Addr) (cdg : Value) (bg : List Stmt) (a : Str) (q : Str) (TT : (XK → Hp → VK → Prop) → Hp → VK → Prop) : Prop :=
  ∀ (f c' : Addr) (s : Shared) (H : Hp) (Q : VK) (tl : XK → Hp → VK → Prop),
    (∀ (W : WX) (pn : List (Addr × Obj)) (xe : Value → Shared → Prop) (E : XK) (p1 p2 : Pos), L2N.Takes ((cxOf C8.CX0 X.prog X.w X.K X.mg X.base Ng x sg g cdg X.A X.stack s H C8.E0).tr pn xe) W → (∀ cls d (σ' : L2.St) H', σ'.length = Ng.length → E cls d H' → W cls d σ' H') →
      PE ((cxOf C8.CX0 X.prog X.w X.K X.mg X.base Ng x sg g cdg X.A X.stack s H C8.E0).tr pn xe) (.Call (.Name a p1) [] [] p2) (fun σZ HZ Q => σZ[0]? = some (some (.ref f)) ∧ HZ c' = some (CodeO c' q) ∧ tl E HZ Q)) →
    H c' = some (CodeO c' q) → TT tl H Q →
    ∃ t, PSs (cxOf C8.CX0 X.prog X.w X.K X.mg X.base Ng x sg g cdg X.A X.stack s H C8.E0).nox bg t ∧ t { nx := fun _ H' => Q .non H', rt := Q } (L2.start Ng [.ref f]) H
section
variable {X : Cx}
/-- x(lambda: body) -/
theorem pe_lamcall {T : List (Addr × Str)} {TT : (XK → Hp → VK → Prop) → Hp → VK → Prop} {x a : Str} {g c P : Addr} {k : Nat} {pg : Arguments} {bg : List Stmt} {sg : Scope} {dV kV doc pm cdv ct oc : Value} {an od : Option Addr} {osl : Array (Option Value)} {Ng : List Str}
    {params : Arguments} {body : Expr} {scope : Scope} {t : XK → TE} {p lpos pos : Pos} (hg : Gl X x) (hm : X.mg x = some (.ref g)) (hk : PySem.W.keepIn X.K (.ref g) = true)
    (lk : X.K.lookup g = some ⟨oc, od, .func (PySem.W.fnOf x x pg bg sg dV kV doc pm an cdv ct), osl⟩) (hcg : PySem.W.codeIn X.K cdv x = true) (hb : L2.Binds X.K (PySem.W.fnOf x x pg bg sg dV kV doc pm an cdv ct) [a] []) (Sg : FnScope Ng [a] sg) (hNg : Ng[0]? = some a) (hva : Vis sg a)
    (hG : GivesTo X Ng x sg g cdv bg a (X.env.qual ++ "<lambda>") TT)
    (TB : TabB X.base X.mg c P) (hcode : X.env.code = .ref c) (hmT : (P, X.env.qual ++ "<lambda>") ∈ T) (hu : ∀ p ∈ T, p.1 = P → p.2 = X.env.qual ++ "<lambda>") (hr : Room (k + 2) X.A) (L : LamS X.env.scope scope) (hdef : defaultsOf params X.env = ([], []))
    (hbind : ∀ (q : Str) (cl : List (Str × Addr)) (pm cv ctv : Value), bindArgs (PySem.W.kla_fn "<lambda>" q params body scope cl pm cv ctv) ⟨[], []⟩ = pure [])
    (hbody : ∀ (A : Around) (outer : List Env) (s : Shared) (H : Hp) (E : XK) (f c' : Addr), Room k (A.deeper (lamEnv X scope s.heap.objs.size f c')) → PE (lamCx X A outer s H E scope f c') body (t E))
    (hdb : (x == ("__debug__" : Str)) = false := by decide) (hd : (a == ("__debug__" : Str)) = false := by decide) (hcd : (a == ("__classdict__" : Str)) = false := by decide) :
    PE X (.Call (.Name x p) [.Lambda params body scope lpos] [] pos) (tLam T TT t) := by
  refine ⟨fun pins s σ H Q I h => ?_⟩
  obtain ⟨hT, h⟩ := h
  refine wpAny_Call_Name_kw (ld_glob I hg hm ?_ hdb)
  refine PySem.W.callWith_K (h₀ := X.base) I.ok.mod.kin hk ?_ (by rfl) (by rfl)
  show wpAny _ _ (spliced ((false, eval (.Lambda params body scope lpos) X.env) :: backTo pos (starEach [] X.env))) _ _ s
  refine Calls.spliced_cons (lam_make2 I TB hcode hmT hu hT hdef (L.has I.ok) fun f c' pm' ctv H1 s' I1 eN T1 hf hfn hfr hco => ?_)
  refine Calls.spliced_nil ⟨I1.kIn, ?_⟩
  have rc : codeAny (model X.prog X.w) X.A (.call (.ref g) ⟨[.ref f], []⟩) (CR C8.CX0 X.stack X.prog X.w H1 s' Q C8.E0) s' := by
    refine run_ofS (N := Ng) (ps := [a]) (us := [.ref f]) (vs := [.ref f]) lk hcg Sg hr I1.env0 (hb s' [.ref f] I1.kIn rfl) (.cons rfl .nil) rfl fun hr' => ?_
    obtain ⟨t', ht', hq'⟩ := hG f c' s' H1 Q (fun E H' Q' => t E σ H' Q') (fun W pn xe E p1 p2 tk hW => pe_act (i := 0) I1 L hf hfn hfr (hbind _ _ _ _ _) tk hW hr' (fun A outer s H hr2 => hbody A outer s H E f c' hr2) hNg hva hd hcd) hco (h H1 eN T1)
    exact ⟨t', ht'.nox, hq'⟩
  refine wpAny_call (codeAny_mono rc fun r s2 hq => ?_)
  cases r with
  | error e => exact (show False from hq).elim
  | ok fl =>
    cases fl with
    | ret u => exact I1.after hq
    | next => exact False.elim hq
    | brk => exact False.elim hq
    | cont => exact False.elim hq
end
end LamN

/-! While an exception is handled: iterators' ends, unpacking. -/
namespace EvHot
open PySem PySem.Spec PyProof.Rows HotX
section
variable {prog : Program} {w : World} {A : Around} {E : Value → Shared → Prop} {s : Shared}
theorem list_end_hot {it t x1 : Addr} {i : Nat} {items} {Q : Option Value → Shared → Prop} (hot : HotAt A x1 s.heap) (hne : x1 ≠ it)
    (hit : s.heap.IsListIter it t i) (ht : s.heap.IsList t items) (hx : items[i]? = none)
    (hQ : ∀ h', Heap.ExtBut it s.heap h' → Q none { s with heap := h' }) : wpAny (model prog w) A (pyNext (.ref it)) Q E s := by
  obtain ⟨o, ho, hc, hd⟩ := id hit
  obtain ⟨ol, hol, _, nl, hdl⟩ := ht
  obtain ⟨hh, o1, vs1, h1, d1, c1⟩ := hot
  unfold pyNext
  refine wpAny_bind (wpAny_attempt (wpAny_callSpecial?_slot (name := Str.ofString "__next__") hit.typeIs slot_listiter_next
    (wpAny_call_entry slot_listiter_next hit.typeIs entry_listiter_next ?_ (args_listiter_next _))))
  show wpAny _ _ (field (.ref it) 0 >>= _) _ _ s
  refine wpAny_bind (wpAny_field ho hd (x := .ref t) rfl ?_)
  show wpAny _ _ (if (Value.ref t == Value.none) = true then _ else _) _ _ s
  rw [if_neg (show ¬ ((Value.ref t == Value.none) = true) from Bool.false_ne_true)]
  show wpAny _ _ (field (.ref it) 1 >>= _) _ _ s
  refine wpAny_bind (wpAny_field ho hd (x := .int i 0) rfl ?_)
  show wpAny _ _ (seqItems? (.ref t) >>= _) _ _ s
  refine wpAny_bind (wpAny_seqItems hol hdl ?_)
  simp only [Int.toNat_natCast, hx]
  refine wpAny_bind (wpAny_rule (wpAny_bind (wpAny_setField ho hd (by simp) ?_)))
  show wpAny _ _ (newExc (.type "StopIteration") [] >>= _) _ _ _
  refine wpAny_bind ?_
  simp only [newExc, newTuple]
  refine wpAny_bind (wpAny_newObj_type ?_ (by size_fits))
  refine wpAny_bind (m := firstArgMember _ _) (wpAny_of_eq (a := Value.none) (by first | rfl | (simp only [firstArgMember]; rfl)) ?_)
  refine wpAny_newObj_type ?_ (by size_fits)
  have h2 : (s.heap.update it (Obj.mapFields (·.setIfInBounds 0 Value.none))).get? x1 = some o1 := by
    rw [Heap.get?_update_other _ _ hne.symm]
    exact h1
  refine raiseNew_hot ⟨hh, o1, vs1, Heap.get?_push_of_some _ (Heap.get?_push_of_some _ h2), d1, c1⟩ (Nat.ne_of_lt (Heap.lt_size (Heap.get?_push_of_some _ h2))) (Heap.get?_push_size _ rfl) rfl (by first | (simp; done) | (simp; omega) | (simp only [Array.size_append]; simp; omega)) ?_
  refine wpAny_bind (wpAny_isInstance (T := "StopIteration") (b := true) ⟨_, Heap.get?_update_self _ (Heap.get?_push_size _ rfl) rfl, rfl⟩ isSubtype_stop ?_)
  refine wpAny_pure (hQ _ fun b o hb e => ?_)
  have e2 := (Heap.SameBut.update s.heap it (Obj.mapFields (·.setIfInBounds 0 Value.none))).extBut b o hb e
  exact (Heap.get?_update_other _ _ (Nat.ne_of_gt (Heap.lt_size (Heap.get?_push_of_some _ e2)))).trans (Heap.get?_push_of_some _ (Heap.get?_push_of_some _ e2))
theorem tuple_end_hot {it t x1 : Addr} {i : Nat} {items} {Q : Option Value → Shared → Prop} (hot : HotAt A x1 s.heap) (hne : x1 ≠ it)
    (hit : s.heap.IsTupleIter it t i) (ht : s.heap.IsTuple t items) (hx : items[i]? = none)
    (hQ : ∀ h', Heap.ExtBut it s.heap h' → Q none { s with heap := h' }) : wpAny (model prog w) A (pyNext (.ref it)) Q E s := by
  obtain ⟨o, ho, hc, hd⟩ := id hit
  obtain ⟨ol, hol, _, nl, hdl⟩ := ht
  obtain ⟨hh, o1, vs1, h1, d1, c1⟩ := hot
  unfold pyNext
  refine wpAny_bind (wpAny_attempt (wpAny_callSpecial?_slot (name := Str.ofString "__next__") hit.typeIs F.slot_tuple_iterator_next
    (wpAny_call_entry F.slot_tuple_iterator_next hit.typeIs F.entry_tuple_iterator_next ?_ (F.args_tuple_iterator_next_1 _))))
  show wpAny _ _ (field (.ref it) 0 >>= _) _ _ s
  refine wpAny_bind (wpAny_field ho hd (x := .ref t) rfl ?_)
  show wpAny _ _ (if (Value.ref t == Value.none) = true then _ else _) _ _ s
  rw [if_neg (show ¬ ((Value.ref t == Value.none) = true) from Bool.false_ne_true)]
  show wpAny _ _ (field (.ref it) 1 >>= _) _ _ s
  refine wpAny_bind (wpAny_field ho hd (x := .int i 0) rfl ?_)
  show wpAny _ _ (seqItems? (.ref t) >>= _) _ _ s
  refine wpAny_bind (wpAny_seqItems hol hdl ?_)
  simp only [Int.toNat_natCast, hx]
  refine wpAny_bind (wpAny_rule (wpAny_bind (wpAny_setField ho hd (by simp) ?_)))
  show wpAny _ _ (newExc (.type "StopIteration") [] >>= _) _ _ _
  refine wpAny_bind ?_
  simp only [newExc, newTuple]
  refine wpAny_bind (wpAny_newObj_type ?_ (by size_fits))
  refine wpAny_bind (m := firstArgMember _ _) (wpAny_of_eq (a := Value.none) (by first | rfl | (simp only [firstArgMember]; rfl)) ?_)
  refine wpAny_newObj_type ?_ (by size_fits)
  have h2 : (s.heap.update it (Obj.mapFields (·.setIfInBounds 0 Value.none))).get? x1 = some o1 := by
    rw [Heap.get?_update_other _ _ hne.symm]
    exact h1
  refine raiseNew_hot ⟨hh, o1, vs1, Heap.get?_push_of_some _ (Heap.get?_push_of_some _ h2), d1, c1⟩ (Nat.ne_of_lt (Heap.lt_size (Heap.get?_push_of_some _ h2))) (Heap.get?_push_size _ rfl) rfl (by first | (simp; done) | (simp; omega) | (simp only [Array.size_append]; simp; omega)) ?_
  refine wpAny_bind (wpAny_isInstance (T := "StopIteration") (b := true) ⟨_, Heap.get?_update_self _ (Heap.get?_push_size _ rfl) rfl, rfl⟩ isSubtype_stop ?_)
  refine wpAny_pure (hQ _ fun b o hb e => ?_)
  have e2 := (Heap.SameBut.update s.heap it (Obj.mapFields (·.setIfInBounds 0 Value.none))).extBut b o hb e
  exact (Heap.get?_update_other _ _ (Nat.ne_of_gt (Heap.lt_size (Heap.get?_push_of_some _ e2)))).trans (Heap.get?_push_of_some _ (Heap.get?_push_of_some _ e2))
theorem tup_end_hot {it t x1 : Addr} {i : Nat} {items} {Q : Option Value → Shared → Prop} (hot : HotAt A x1 s.heap) (hne : x1 ≠ it)
    (hit : IsTupIter s.heap it t i) (ht : IsTup s.heap t items) (hx : items[i]? = none)
    (hQ : ∀ h', Heap.ExtBut it s.heap h' → Q none { s with heap := h' }) : wpAny (model prog w) A (pyNext (.ref it)) Q E s := by
  obtain ⟨o, ho, hc, hd⟩ := id hit
  obtain ⟨ol, hol, _, nl, hdl⟩ := ht
  obtain ⟨hh, o1, vs1, h1, d1, c1⟩ := hot
  unfold pyNext
  refine wpAny_bind (wpAny_attempt (wpAny_callSpecial?_slot (name := Str.ofString "__next__") hit.typeIs slot_tupleiter_next
    (wpAny_call_entry slot_tupleiter_next hit.typeIs entry_tupleiter_next ?_ (args_tupleiter_next _))))
  show wpAny _ _ (field (.ref it) 0 >>= _) _ _ s
  refine wpAny_bind (wpAny_field ho hd (x := .ref t) rfl ?_)
  show wpAny _ _ (if (Value.ref t == Value.none) = true then _ else _) _ _ s
  rw [if_neg (show ¬ ((Value.ref t == Value.none) = true) from Bool.false_ne_true)]
  show wpAny _ _ (field (.ref it) 1 >>= _) _ _ s
  refine wpAny_bind (wpAny_field ho hd (x := .int i 0) rfl ?_)
  show wpAny _ _ (seqItems? (.ref t) >>= _) _ _ s
  refine wpAny_bind (wpAny_seqItems hol hdl ?_)
  simp only [Int.toNat_natCast, hx]
  refine wpAny_bind (wpAny_rule (wpAny_bind (wpAny_setField ho hd (by simp) ?_)))
  show wpAny _ _ (newExc (.type "StopIteration") [] >>= _) _ _ _
  refine wpAny_bind ?_
  simp only [newExc, newTuple]
  refine wpAny_bind (wpAny_newObj_type ?_ (by size_fits))
  refine wpAny_bind (m := firstArgMember _ _) (wpAny_of_eq (a := Value.none) (by first | rfl | (simp only [firstArgMember]; rfl)) ?_)
  refine wpAny_newObj_type ?_ (by size_fits)
  have h2 : (s.heap.update it (Obj.mapFields (·.setIfInBounds 0 Value.none))).get? x1 = some o1 := by
    rw [Heap.get?_update_other _ _ hne.symm]
    exact h1
  refine raiseNew_hot ⟨hh, o1, vs1, Heap.get?_push_of_some _ (Heap.get?_push_of_some _ h2), d1, c1⟩ (Nat.ne_of_lt (Heap.lt_size (Heap.get?_push_of_some _ h2))) (Heap.get?_push_size _ rfl) rfl (by first | (simp; done) | (simp; omega) | (simp only [Array.size_append]; simp; omega)) ?_
  refine wpAny_bind (wpAny_isInstance (T := "StopIteration") (b := true) ⟨_, Heap.get?_update_self _ (Heap.get?_push_size _ rfl) rfl, rfl⟩ isSubtype_stop ?_)
  refine wpAny_pure (hQ _ fun b o hb e => ?_)
  have e2 := (Heap.SameBut.update s.heap it (Obj.mapFields (·.setIfInBounds 0 Value.none))).extBut b o hb e
  exact (Heap.get?_update_other _ _ (Nat.ne_of_gt (Heap.lt_size (Heap.get?_push_of_some _ e2)))).trans (Heap.get?_push_of_some _ (Heap.get?_push_of_some _ e2))
theorem unpackItems_hot {t x1 : Addr} {items : Array Value} {Q : List Value → Shared → Prop} (hot : HotAt A x1 s.heap) (ht : IsTup s.heap t items)
    (hQ : ∀ h', Heap.ExtBut s.heap.objs.size s.heap h' → Q items.toList { s with heap := h' }) : wpAny (model prog w) A (unpackItems (.ref t) items.size none) Q E s := by
  have hlt : t ≠ s.heap.objs.size := by obtain ⟨o, ho, _⟩ := ht; exact Nat.ne_of_lt (Heap.lt_size ho)
  obtain ⟨hh, o1, vs1, h1, d1, c1⟩ := hot
  have hx1 : x1 ≠ s.heap.objs.size := Nat.ne_of_lt (Heap.lt_size h1)
  unfold unpackItems
  refine wpAny_bind ?_
  · unfold notIterableAtAll
    refine wpAny_bind (wpAny_specialOf ht.typeIs slot_tuple_iter.lookup ?_)
    refine wpAny_pure ?_
    simp only [Bool.false_eq_true, if_false]
    refine wpAny_bind (wpAny_holding (iter_tuple ht ?_))
    refine wpAny_bind (wpAny_holding (draw_tuple hlt items.size 0 _ _ ⟨_, Heap.get?_push_size _ rfl, rfl, rfl⟩ (ht.push _) (by omega) fun h₁ hit₁ hs₁ => ?_))
    have hall : List.take items.size (List.drop 0 items.toList) = items.toList := by
      rw [List.drop_zero]; exact List.take_of_length_le (by simp)
    rw [hall]
    rw [if_neg (by simp)]
    have ht₁ : IsTup h₁ t items := (ht.push _).extBut hs₁.extBut hlt
    refine wpAny_bind (wpAny_holding (tup_end_hot (x1 := x1) ⟨hh, o1, vs1, hs₁.extBut _ _ hx1 (Heap.get?_push_of_some _ h1), d1, c1⟩ hx1 hit₁ ht₁ (by simp) fun h₂ he₂ => ?_))
    simp only [Option.isSome_none, Bool.false_eq_true, if_false]
    refine wpAny_pure (hQ h₂ fun b o hb e => he₂ b o hb (hs₁.extBut b o hb (Heap.get?_push_of_some _ e)))
theorem assign_Tuple_hot {env : Env} {elts : List Expr} {k} {pos : Pos} {t x1 : Addr} {items : Array Value} {Q : Unit → Shared → Prop} (hot : HotAt A x1 s.heap) (ht : IsTup s.heap t items)
    (hn : (assignEach elts env).length = items.size) (hstar : (assignEach elts env).findIdx? (·.1) = none)
    (h : ∀ h', Heap.ExtBut s.heap.objs.size s.heap h' → wpAny (model prog w) A (assignInOrder ((assignEach elts env).map (·.2)) items.toList) Q E { s with heap := h' }) :
    wpAny (model prog w) A (assign (.Tuple elts k pos) env (.ref t)) Q E s := by
  rw [assign_Tuple]
  refine wpAny_bind (wpAny_standAt ?_)
  unfold unpack
  rw [hn, hstar]
  exact wpAny_bind (wpAny_holding (unpackItems_hot hot ht h))
end
end EvHot

/-! While an exception is handled: comprehensions over lists and tuples, targets. -/
namespace EvHot
open PySem PySem.Spec PyProof.Rows HotX L2 L2H
abbrev St := L2.St
theorem hot_at {X : Cx} {pins : List (Addr × Obj)} {σ : St} {H : Hp} {s : Shared} (c : HotC X) (I : Inv X pins σ H s) : ∃ x1, HotAt X.A x1 s.heap ∧ ∀ b, FpOk X pins H b → x1 ≠ b := by
  obtain ⟨p, ⟨hh, v1, e1, c1⟩, hp⟩ := c
  exact ⟨p.1, ⟨hh, p.2, v1, (I.pin p (List.mem_append_left _ hp)).1, e1, c1⟩, fun b f => f.2.2.2.2.2 p (List.mem_append_left _ hp)⟩
theorem turn_listH {P : Program} {w : World} {K : PySem.W.Frag} {tg : Expr} (a it : Addr) : TurnH P w K tg (Itl K a) [it] it (fun i h => h.IsListIter it a i) where
  mem := by simp
  obj := fun i h st b hb => by
    have e : b = it := by simpa using hb
    subst e
    obtain ⟨o, e, c, d⟩ := st
    exact ⟨o, e, fun v z => by rw [d] at z; cases z⟩
  keep := fun i h h' st k => st.at fun o e => k it (by simp) o e
  item := by
    intro X hP hw hK hc i pins s σ H E I hf st hg
    subst hP hw hK
    obtain ⟨xs, x, hq, hx⟩ := hg
    obtain ⟨its, rv, p, hz⟩ := I.list hq
    obtain ⟨u, hu, ru⟩ := rv.get hx
    obtain ⟨f0, f1, f2, f3, f4, f5⟩ := hf it (by simp)
    refine wpAny_pyNext_list_item st p.isList (x := u) (by simpa using hu) fun h' st' sb => ?_
    have I1 : Inv X pins σ H { s with heap := h' } := I.turned (t' := s.toks) (fun b o hb e => (sb.2 b hb).trans e) f0 f1 f3 f4 f5
    obtain ⟨o, e, c, d⟩ := id st'
    exact ⟨u, rfl, go_of (s := { s with heap := h' }) e c d (by decide) ⟨x, H, I1, ru, ⟨rfl, fun ys hy => by rw [I.list_inj hy hq]; exact hx⟩, st', fun b hb => (hf b hb).1⟩⟩
  done := by
    intro X hP hw hK hc i pins s σ H E I hf st hg
    subst hP hw hK
    obtain ⟨xs, hq, hx⟩ := hg
    obtain ⟨its, rv, p, hz⟩ := I.list hq
    obtain ⟨x1, hot, hn⟩ := hot_at hc I
    have hne := hn it (hf it (by simp))
    obtain ⟨f0, f1, f2, f3, f4, f5⟩ := hf it (by simp)
    have hl := rv.length
    exact list_end_hot hot hne st p.isList (by simp; omega) fun h' eb => ⟨rfl, I.turned (t' := s.toks) (fun b o hb e => eb b o hb e) f0 f1 f3 f4 f5⟩
  self := fun _ _ _ _ _ st h => wpAny_pyIter_listiter st h
theorem turn_tupleH {P : Program} {w : World} {K : PySem.W.Frag} {tg : Expr} (a it : Addr) : TurnH P w K tg (Itt K a) [it] it (fun i h => h.IsTupleIter it a i) where
  mem := by simp
  obj := fun i h st b hb => by
    have e : b = it := by simpa using hb
    subst e
    obtain ⟨o, e, c, d⟩ := st
    exact ⟨o, e, fun v z => by rw [d] at z; cases z⟩
  keep := fun i h h' st k => st.at fun o e => k it (by simp) o e
  item := by
    intro X hP hw hK hc i pins s σ H E I hf st hg
    subst hP hw hK
    obtain ⟨xs, x, hq, hx⟩ := hg
    obtain ⟨its, rv, p, hz⟩ := I.tuple hq
    obtain ⟨u, hu, ru⟩ := rv.get hx
    obtain ⟨f0, f1, f2, f3, f4, f5⟩ := hf it (by simp)
    refine wpAny_pyNext_tuple_item st (show s.heap.IsTuple a its.toArray from p) (x := u) (by simpa using hu) fun h' st' sb => ?_
    have I1 : Inv X pins σ H { s with heap := h' } := I.turned (t' := s.toks) (fun b o hb e => (sb.2 b hb).trans e) f0 f1 f3 f4 f5
    obtain ⟨o, e, c, d⟩ := id st'
    exact ⟨u, rfl, go_of (s := { s with heap := h' }) e c d (by decide) ⟨x, H, I1, ru, ⟨rfl, fun ys hy => by rw [I.tuple_inj hy hq]; exact hx⟩, st', fun b hb => (hf b hb).1⟩⟩
  done := by
    intro X hP hw hK hc i pins s σ H E I hf st hg
    subst hP hw hK
    obtain ⟨xs, hq, hx⟩ := hg
    obtain ⟨its, rv, p, hz⟩ := I.tuple hq
    obtain ⟨x1, hot, hn⟩ := hot_at hc I
    have hne := hn it (hf it (by simp))
    obtain ⟨f0, f1, f2, f3, f4, f5⟩ := hf it (by simp)
    have hl := rv.length
    exact tuple_end_hot hot hne st (show s.heap.IsTuple a its.toArray from p) (by simp; omega) fun h' eb => ⟨rfl, I.turned (t' := s.toks) (fun b o hb e => eb b o hb e) f0 f1 f3 f4 f5⟩
  self := fun _ _ _ _ _ st h => wpAny_pyIter_tupleiter st h
theorem pi_seqH {X : Cx} {tg l : Expr} {tl : TE} (hl : PE X l tl) : PIH X tg l (fun σ H R => tl σ H fun x H1 => (∃ a, x = .ref a ∧ (∃ xs, SqL X.K H1 a xs) ∧ R (Itl X.K a) H1) ∨ (∃ a, x = .ref a ∧ (∃ xs, SqT X.K H1 a xs) ∧ R (Itt X.K a) H1)) := by
  refine ⟨fun pins s σ H R I h => ?_⟩
  refine thn (hl.run pins s σ H _ I h) fun v s1 ⟨x, H1, I1, r1, q1⟩ => ?_
  rcases q1 with ⟨a, e, ⟨xs, hq⟩, q⟩ | ⟨a, e, ⟨xs, hq⟩, q⟩
  · subst e
    cases r1
    obtain ⟨its, rv, p, hz⟩ := I1.list hq
    refine wpAny_pyIter_list p.isList ?_
    refine ⟨s1.heap.objs.size, [s1.heap.objs.size], _, _, H1, rfl, I1.kept (t' := s1.toks) fun b o e => Heap.get?_push_of_some _ e, turn_listH a _, ⟨_, Heap.get?_push_size _ rfl, rfl, rfl⟩, fun b hb => ?_, q⟩
    have e : b = s1.heap.objs.size := by simpa using hb
    subst e
    exact I1.fpOk (Nat.le_refl _) (I1.hok.fresh (Nat.le_refl _))
  · subst e
    cases r1
    obtain ⟨its, rv, p, hz⟩ := I1.tuple hq
    refine wpAny_pyIter_tuple (show s1.heap.IsTuple a its.toArray from p) ?_
    refine ⟨s1.heap.objs.size, [s1.heap.objs.size], _, _, H1, rfl, I1.kept (t' := s1.toks) fun b o e => Heap.get?_push_of_some _ e, turn_tupleH a _, ⟨_, Heap.get?_push_size _ rfl, rfl, rfl⟩, fun b hb => ?_, q⟩
    have e : b = s1.heap.objs.size := by simpa using hb
    subst e
    exact I1.fpOk (Nat.le_refl _) (I1.hok.fresh (Nat.le_refl _))
theorem pg_tupH {X : Cx} {es : List Expr} {k : Nat} {t : TGs} {n : Nat} {pos : Pos} (hc : HotC X) (h : PGs X es t)
    (hn : (assignEach es X.env).length = n) (hst : (assignEach es X.env).findIdx? (·.1) = none) : PG X (.Tuple es k pos) (gTup X.K n t) := by
  refine ⟨fun pins s σ H v u Q I r hw => ?_⟩
  obtain ⟨a, xs, e1, hq, hl, hw⟩ := hw
  subst e1
  cases r
  obtain ⟨its, rv, ht, hz⟩ := I.tuple hq
  obtain ⟨x1, hot, _⟩ := hot_at hc I
  refine assign_Tuple_hot hot ht (by simp [hn, ← hl, rv.length]) hst fun h' hx => ?_
  have I1 : Inv X pins σ H { s with heap := h' } := I.kept (t' := s.toks) fun b o e => hx b o (Nat.ne_of_lt (Heap.lt_size e)) e
  exact h.run pins _ σ H xs _ Q I1 (by simpa using rv) hw
/-- the block's context, the handled exception within -/
abbrev blkH (X : Cx) (p : Addr × Obj) (s : Shared) (H : Hp) (scope : Scope) (cenv : Env) (fp : List Addr) : Cx := { X.blk s H scope cenv fp with pn := [p] }
theorem blkH_hot {X : Cx} {p : Addr × Obj} {s : Shared} {H : Hp} {scope : Scope} {cenv : Env} {fp : List Addr} (h : Hot1 X.A p) : HotC (blkH X p s H scope cenv fp) := ⟨p, h, List.mem_singleton.mpr rfl⟩
theorem inv_pn {X : Cx} {pins : List (Addr × Obj)} {σ : St} {H : Hp} {s : Shared} (I : Inv X pins σ H s) (pn' : List (Addr × Obj)) (h : ∀ q ∈ pn' ++ pins, s.heap.get? q.1 = some q.2 ∧ H q.1 = none ∧ q.1 ≠ X.env.locals ∧ q.1 ∉ X.fs ∧ ∀ v, q.2.data ≠ .cell v) : Inv { X with pn := pn' } pins σ H s :=
  ⟨⟨I.ok.mod, I.ok.kind, I.ok.glob, I.ok.blt, I.ok.above, I.ok.inj, I.ok.has, I.ok.cab, I.ok.hd, I.ok.frames, I.ok.stk, I.ok.exf, I.ok.bs, I.ok.bsz, I.ok.noex, I.ok.exfs, I.ok.funs, I.ok.frf⟩, I.os, I.bare, I.base, I.loc, I.cell, I.free, I.freeC, h, I.hok, I.len⟩
section
variable {X : Cx}
theorem lc_coreH {pins : List (Addr × Obj)} {s : Shared} {σ : St} {H : Hp} {Q : VK} {elt tg iter : Expr} {ifs : List Expr} {scope : Scope} {own : List (Str × Nat)} {pos pos' : Pos} {wi : TI} {g : TG} {tt : TT} {te : TE} {use : Option (Value → Sem Unit)} {Qf : Value → Shared → Prop}
    (hc : HotC X) (hN : X.N.Nodup) (I : Inv X pins σ H s) (hi : PIH X tg iter wi) (ok : BlkOk X.N X.env.scope scope own)
    (hg : ∀ (p : Addr × Obj), Hot1 X.A p → ∀ (s : Shared) (H : Hp) (C : Addr) (cl : List (Str × Addr)) (fp : List Addr), PG (blkH X p s H scope (compEnvC scope cl C X.env) fp) tg g) (ht : ∀ (p : Addr × Obj), Hot1 X.A p → ∀ (s : Shared) (H : Hp) (C : Addr) (cl : List (Str × Addr)) (fp : List Addr), PTs (blkH X p s H scope (compEnvC scope cl C X.env) fp) ifs tt)
    (he : ∀ (p : Addr × Obj), Hot1 X.A p → ∀ (s : Shared) (H : Hp) (C : Addr) (cl : List (Str × Addr)) (fp : List Addr), PE (blkH X p s H scope (compEnvC scope cl C X.env) fp) elt te) (hs : ∀ x, foldedSetIterable iter X.env x = pure x)
    (h : tLc wi g tt te (own.map (·.2)) σ H Q)
    (hRR : ∀ D C s' m H', Inv X pins σ H' s' → Q (.ref D) H' → s'.heap.Ns C m → FpOk X pins H' C → compPost (model X.prog X.w) X.A X.xe use Qf (.ref D) C (.ok .next) s') :
    wpAny (model X.prog X.w) X.A (comprehension (.ListComp elt [⟨tg, iter, ifs, 0⟩] scope pos) scope X.env pos' (newList []) false (eval iter X.env) use) Qf X.xe s := by
  have hfree : ∀ y ∈ scope.names, y.2 = .free → ∃ c, X.env.cells.lookup y.1 = some c := fun y hy e => by
    rcases ok.free y hy e with k | k
    · exact I.ok.has _ (.inl k)
    · exact I.ok.has _ (.inr k)
  refine wpAny_comprehension_free (use := use) rfl hs (closure_ok hfree) ok.kind (fun y hy e => by rw [ok.uniq y hy, e])
    (thn (hi.run pins s σ H _ I h) fun xv s1 hx => thn hx fun itv s2 h2 => ?_)
  obtain ⟨it, fp, tn, J, H2, e, I2, T, st2, f2, q⟩ := h2
  subst e
  refine wpAny_newObj_type (newEnv_comp ?_) (by show 0 ≤ sizeLine; decide)
  generalize hD : s2.heap.objs.size = D
  have hDn : H2 D = none := I2.hok.fresh (Nat.le_of_eq hD)
  obtain ⟨W, ⟨m0, w0⟩, turn⟩ := q D hDn
  -- the new list
  generalize hs3 : ({ s2 with heap := s2.heap.push { cls := .type "list", data := .seq ([] : List Value).toArray } } : Shared) = s3
  have I3 : Inv X pins σ (upd H2 D (.lst [])) s3 := by
    rw [← hs3]
    refine I2.laid (t' := s2.toks) (fun b o e => Heap.get?_push_of_some _ e) (Nat.le_of_eq hD) ⟨Nat.zero_le _, [], 0, .nil, ?_⟩
    rw [← hD]
    exact Heap.get?_push_size _ rfl
  have h3 : s3.heap = s2.heap.push { cls := .type "list", data := .seq ([] : List Value).toArray } := by rw [← hs3]
  have sz : ∀ b ∈ fp, b < s2.heap.objs.size := fun b hb => by
    obtain ⟨o, e, _⟩ := T.obj _ _ st2 b hb
    exact Heap.lt_size e
  have f3 : ∀ b ∈ fp, FpOk X pins (upd H2 D (.lst [])) b ∧ b < s3.heap.objs.size := fun b hb => by
    have hlt := sz b hb
    refine ⟨⟨?_, (f2 b hb).2⟩, by rw [h3, Heap.size_push]; exact Nat.lt_succ_of_lt hlt⟩
    rw [upd_ne (by rw [← hD]; exact Nat.ne_of_lt hlt)]
    exact (f2 b hb).1
  have st3 : tn 0 s3.heap := T.keep _ _ _ st2 fun b _ o e => by rw [h3]; exact Heap.get?_push_of_some _ e
  obtain ⟨pH, hot1, hpin⟩ := hc
  have pinI := I3.pin pH (List.mem_append_left _ hpin)
  have I4 := block_start I3 ok hN f3
  have pg := hg pH hot1 s3 (upd H2 D (.lst [])) s3.heap.objs.size (cellsFrom (s3.heap.objs.size + 1) scope.names (cloFrom X.env.cells scope.names [])) fp
  have pt := ht pH hot1 s3 (upd H2 D (.lst [])) s3.heap.objs.size (cellsFrom (s3.heap.objs.size + 1) scope.names (cloFrom X.env.cells scope.names [])) fp
  have pe := he pH hot1 s3 (upd H2 D (.lst [])) s3.heap.objs.size (cellsFrom (s3.heap.objs.size + 1) scope.names (cloFrom X.env.cells scope.names [])) fp
  show codeAny _ _ (.compStart (.ListComp elt [⟨tg, iter, ifs, 0⟩] scope pos) 0 (.ref it) (.ref D) (compEnvC scope (cellsFrom (s3.heap.objs.size + 1) scope.names (cloFrom X.env.cells scope.names [])) s3.heap.objs.size X.env)) (compPost (model X.prog X.w) X.A X.xe use Qf (.ref D) s3.heap.objs.size) { s3 with heap := pushCells (s3.heap.push { cls := .type "dict", data := .dict #[] }) scope.names }
  have nfp : ∀ b ∈ fp, (upd H2 D (.lst [])) b = none := fun b hb => (f3 b hb).1.1
  generalize hce : compEnvC scope (cellsFrom (s3.heap.objs.size + 1) scope.names (cloFrom X.env.cells scope.names [])) s3.heap.objs.size X.env = ce at I4 pg pt pe ⊢
  have cL : ce.locals = s3.heap.objs.size := by subst hce; rfl
  generalize hH3 : upd H2 D (.lst []) = H3 at I3 I4 pg pt pe w0 nfp f3
  generalize hs4 : ({ s3 with heap := pushCells (s3.heap.push { cls := .type "dict", data := .dict #[] }) scope.names } : Shared) = s4 at I4 ⊢
  have I4 : Inv (blkH X pH s3 H3 scope ce fp) [] (wipe σ (own.map (·.2))) H3 s4 := inv_pn I4 [pH] fun q hq => by
    have e : q = pH := by simpa using hq
    rw [e]
    refine ⟨?_, by rw [← hH3]; exact pinI.2.1, ?_, ?_, pinI.2.2.2.2⟩
    · rw [← hs4]
      exact pushCells_keeps _ _ _ _ (Heap.get?_push_of_some _ pinI.1)
    · show pH.1 ≠ ce.locals
      rw [cL]
      exact Nat.ne_of_lt (Heap.lt_size pinI.1)
    · intro z
      rcases List.mem_cons.mp (I3.stkSub _ z) with z | z
      · exact pinI.2.2.1 z
      · exact pinI.2.2.2.1 z
  have st4 : tn 0 s4.heap := T.keep _ _ _ st3 fun b _ o e => by rw [← hs4]; exact pushCells_keeps _ _ _ _ (Heap.get?_push_of_some _ e)
  have stat : ∀ {σ' : St} {H' : Hp} {s' : Shared}, Inv (blkH X pH s3 H3 scope ce fp) [] σ' H' s' → (∀ b ∈ fp, H' b = none) → ∀ b ∈ fp, FpOk (blkH X pH s3 H3 scope ce fp) [] H' b := fun {σ' H' s'} I' hn b hb =>
    ⟨hn b hb, (I'.ok.exf b hb).1, I'.ok.exfs b hb, .inl hb, fun x c e => (I'.ok.exf b hb).2 x c e, fun p hp => by
      have e : p = pH := by simpa using hp
      rw [e]
      exact (f3 b hb).1.2.2.2.2.2 pH (List.mem_append_left _ hpin)⟩
  have loop : codeAny (model X.prog X.w) X.A (.compLoop (.ListComp elt [⟨tg, iter, ifs, 0⟩] scope pos) 0 (.ref it) (.ref D) ce) (compPost (model X.prog X.w) X.A X.xe use Qf (.ref D) s3.heap.objs.size) s4 := by
    refine compLoop_any (fun n s' => ∃ i H', Inv (blkH X pH s3 H3 scope ce fp) [] (wipe σ (own.map (·.2))) H' s' ∧ tn i s'.heap ∧ (∀ b ∈ fp, H' b = none) ∧ W i n H') ?_ m0 ⟨0, H3, I4, st4, nfp, w0⟩
    rintro n s5 ⟨i, H5, I5, st5, n5, w5⟩
    rcases turn i n H5 w5 with ⟨stop, qq⟩ | ⟨go, Nx, hNx, step⟩
    · have td := T.done (blkH X pH s3 H3 scope ce fp) rfl rfl rfl (blkH_hot hot1) i [] s5 _ H5 (fun _ _ => False) I5 (stat I5 n5) st5 stop
      refine thnF td fun r s6 ⟨hr, I6⟩ => ?_
      subst hr
      -- back in the def's context
      have I7 : Inv X pins σ H5 s6 := I3.call' (ch := fp) I6.os I6.base I6.hok I6.bare fun b hb => ⟨(f3 b hb).1.2.2.2.1, (f3 b hb).1.2.1, (f3 b hb).1.2.2.2.2.1, (f3 b hb).1.2.2.2.2.2⟩
      have nC : H5 s3.heap.objs.size = none := by
        have z : H5 ce.locals = none := I6.free
        rw [cL] at z
        exact z
      obtain ⟨m, hn, _⟩ := I6.loc
      have hn : s6.heap.Ns ce.locals m := hn
      rw [cL] at hn
      exact hRR D s3.heap.objs.size s6 m H5 I7 qq hn (I3.fpOk (Nat.le_refl _) nC)
    · have ti := T.item (blkH X pH s3 H3 scope ce fp) rfl rfl rfl (blkH_hot hot1) i [] s5 _ H5 (fun _ _ => False) I5 (stat I5 n5) st5 go
      refine thnF ti fun r s6 ⟨u, hr, h6⟩ => ?_
      subst hr
      refine thnF h6 fun _ s7 ⟨x, H7, I7, r7, y7, st7, n7⟩ => ?_
      have I7' := I7.pinned (stat I7 n7) (T.obj _ _ st7)
      refine thnF (pg.run _ s7 _ H7 x u _ I7' r7 (step x H7 y7)) fun _ s8 ⟨σ8, H8, I8, hw8, q8⟩ => ?_
      refine thnF (pt.run _ s8 σ8 H8 _ I8 q8) fun b s9 ⟨H9, I9, q9⟩ => ?_
      -- the turn's end
      have fin : ∀ {s' : Shared} {H' : Hp}, Inv (blkH X pH s3 H3 scope ce fp) ([] ++ pinsAt fp s7.heap) σ8 H' s' → Nx H' → ∃ m, m < n ∧ ∃ i H', Inv (blkH X pH s3 H3 scope ce fp) [] (wipe σ (own.map (·.2))) H' s' ∧ tn i s'.heap ∧ (∀ b ∈ fp, H' b = none) ∧ W i m H' := fun {s' H'} I' nx => by
        obtain ⟨m', hm, w'⟩ := hNx H' nx
        have pin' : ∀ b ∈ fp, ∀ o, s7.heap.get? b = some o → s'.heap.get? b = some o ∧ H' b = none := fun b hb o e =>
          let z := I'.pin (b, o) (List.mem_append_right _ (List.mem_append_right _ (mem_pinsAt hb e)))
          ⟨z.1, z.2.1⟩
        have hl : (wipe σ (own.map (·.2))).length = σ8.length := by rw [← hw8, wipe_length]
        refine ⟨m', hm, i + 1, H', (I'.unpinned (pins := [])).weak hl (fun j v e => ?_), T.keep _ _ _ st7 fun b hb o e => (pin' b hb o e).1, fun b hb => ?_, w'⟩
        · rw [← hw8] at e
          exact (wipe_some e).1
        · obtain ⟨o, e, _⟩ := T.obj _ _ st7 b hb
          exact (pin' b hb o e).2
      cases b with
      | false =>
        simp only [Bool.false_eq_true, if_false] at q9 ⊢
        exact fin I9 q9
      | true =>
        simp only [if_true] at q9 ⊢
        refine thnF (pe.run _ s9 σ8 H9 _ I9 q9) fun z s10 ⟨yv, H10, I10, r10, acc, hD10, hz10, nx⟩ => ?_
        exact app_ok (X := blkH X pH s3 H3 scope ce fp) I10 hD10 hz10 r10 fun s11 I11 => fin I11 nx
  exact codeAny_compStart_list loop (T.self X.A 0 _ _ _ st4 loop)
theorem pe_lcH {elt tg iter : Expr} {ifs : List Expr} {scope : Scope} {own : List (Str × Nat)} {pos : Pos} {wi : TI} {g : TG} {tt : TT} {te : TE} (hc : HotC X) (hN : X.N.Nodup) (hi : PIH X tg iter wi) (ok : BlkOk X.N X.env.scope scope own)
    (hg : ∀ (p : Addr × Obj), Hot1 X.A p → ∀ (s : Shared) (H : Hp) (C : Addr) (cl : List (Str × Addr)) (fp : List Addr), PG (blkH X p s H scope (compEnvC scope cl C X.env) fp) tg g) (ht : ∀ (p : Addr × Obj), Hot1 X.A p → ∀ (s : Shared) (H : Hp) (C : Addr) (cl : List (Str × Addr)) (fp : List Addr), PTs (blkH X p s H scope (compEnvC scope cl C X.env) fp) ifs tt)
    (he : ∀ (p : Addr × Obj), Hot1 X.A p → ∀ (s : Shared) (H : Hp) (C : Addr) (cl : List (Str × Addr)) (fp : List Addr), PE (blkH X p s H scope (compEnvC scope cl C X.env) fp) elt te) (hs : ∀ x, foldedSetIterable iter X.env x = pure x := by intro _; rfl) :
    PE X (.ListComp elt [⟨tg, iter, ifs, 0⟩] scope pos) (tLc wi g tt te (own.map (·.2))) := by
  refine ⟨fun pins s σ H Q I h => ?_⟩
  rw [eval_ListComp]
  refine lc_coreH hc hN I hi ok hg ht he hs h fun D C s' m H' I' q hn f => ⟨m, hn, fun h'' sb => ?_⟩
  obtain ⟨f0, f1, f2, f3, f4, f5⟩ := f
  exact ⟨.ref D, H', I'.turned (t' := s'.toks) (fun b o hb e => (sb.2 b hb).trans e) f0 f1 f3 f4 f5, rfl, q⟩
theorem ps_setLcH {i : Nat} {y : Str} {py : Pos} {elt tg iter : Expr} {ifs : List Expr} {scope : Scope} {own : List (Str × Nat)} {pos spos : Pos} {wi : TI} {g : TG} {tt : TT} {te : TE} (hc : HotC X) (hN : X.N.Nodup) (hy : X.N[i]? = some y) (hyl : X.env.scope.names.lookup y = some .local)
    (hsw : swapsWith (.ListComp elt [⟨tg, iter, ifs, 0⟩] scope pos) (some (.Name y py)) spos.line X.env = pure true) (hi : PIH X tg iter wi) (ok : BlkOk X.N X.env.scope scope own)
    (hg : ∀ (p : Addr × Obj), Hot1 X.A p → ∀ (s : Shared) (H : Hp) (C : Addr) (cl : List (Str × Addr)) (fp : List Addr), PG (blkH X p s H scope (compEnvC scope cl C X.env) fp) tg g) (ht : ∀ (p : Addr × Obj), Hot1 X.A p → ∀ (s : Shared) (H : Hp) (C : Addr) (cl : List (Str × Addr)) (fp : List Addr), PTs (blkH X p s H scope (compEnvC scope cl C X.env) fp) ifs tt)
    (he : ∀ (p : Addr × Obj), Hot1 X.A p → ∀ (s : Shared) (H : Hp) (C : Addr) (cl : List (Str × Addr)) (fp : List Addr), PE (blkH X p s H scope (compEnvC scope cl C X.env) fp) elt te) (hs : ∀ x, foldedSetIterable iter X.env x = pure x := by intro _; rfl) :
    PS X (.Assign [.Name y py] (.ListComp elt [⟨tg, iter, ifs, 0⟩] scope pos) spos) (tAsg (tLc wi g tt te (own.map (·.2))) (gName i)) := by
  refine ⟨fun pins s σ H D I h => ?_⟩
  rw [exec_Assign_Name_used _ _ _ _ hsw]
  refine wpAny_bind (wpAny_standAt (wpAny_bind ?_))
  show wpAny _ X.A (do let _ ← comprehension (.ListComp elt [⟨tg, iter, ifs, 0⟩] scope pos) scope X.env (firstIterPos [⟨tg, iter, ifs, 0⟩] pos) (newList []) false (eval iter X.env) (some (assign (.Name y py) X.env))) _ _ s
  have h : tLc wi g tt te (own.map (·.2)) σ H (fun x H1 => gName i x σ H1 D.nx) := h
  refine wpAny_bind (thn (lc_coreH (Qf := fun _ s' => SP X pins D .next s') hc hN I hi ok hg ht he hs h fun L C s' m H' I' q hn f => ?_) fun _ s' hq => wpAny_pure (wpAny_pure hq))
  show wpAny _ _ (assign (.Name y py) X.env (.ref L)) _ _ _
  refine wpAny_assign_Name (store_ok2 (v := V.ref L) I' hN hy (.inl hyl) rfl (fun s2 I2 ⟨a, sb, ha⟩ => ?_) (.inr hyl))
  obtain ⟨f0, f1, f2, f3, f4, f5⟩ := f
  have haC : C ≠ a := by
    rcases ha with z | z
    · rw [z]; exact f1
    · exact fun e => f4 y a z e.symm
  refine ⟨m, hn.sameBut sb haC, fun h3 sb3 => ?_⟩
  exact ⟨_, H', I2.turned (t' := s2.toks) (fun b o hb e => (sb3.2 b hb).trans e) f0 f1 f3 f4 f5, q⟩
end
end EvHot

/-! The look: does an expression of the text say what a value of Ex says. The readings by the evaluator. -/
namespace Ev
open PySem PySem.Spec PyProof.Rows L2 LamX

/-! ### the look -/
structure PC where
  fn : List Str
  cn : List Str
  bt : List Str
  gc : List (Str × D)
  kd : List (Str × List (Str × D))
  er : Str
  /-- is the class j beneath the class k -/
  sb : Nat → Nat → Option Bool
  /-- the classes that are raised -/
  rc : List Nat
structure MC where
  N : List Str
  sc : Scope
  er : Bool
  /-- an exception is handled -/
  hot : Bool
def glb (sc : Scope) (x : Str) : Bool := match sc.names.lookup x with | some .globalImplicit => true | _ => false
def vis (sc : Scope) (x : Str) : Bool := match sc.names.lookup x with | some .local => true | some .cell => true | some .free => true | _ => false
def locl (sc : Scope) (x : Str) : Bool := match sc.names.lookup x with | some .local => true | _ => false
def loccell (sc : Scope) (x : Str) : Bool := match sc.names.lookup x with | some .local => true | some .cell => true | _ => false
def okN (x : Str) : Bool := !(x == ("__debug__" : Str)) && !(x == ("__classdict__" : Str)) && !(decide (x = ("__name__" : Str)))
def cstOk : D → Const → Bool
  | .non, .none => true
  | .bl b, .bool c => b == c
  | .int i, .int j => i == j
  | .str x, .str y => decide (x = y)
  | _, _ => false
mutual
def D.same : D → D → Bool
  | .non, .non => true
  | .bl a, .bl b => a == b
  | .int a, .int b => a == b
  | .str a, .str b => decide (a = b)
  | .tup xs, .tup ys => D.sames xs ys
  | .lst xs, .lst ys => D.sames xs ys
  | .fn a, .fn b => a == b
  | .cup, .cup => true
  | .exc a, .exc b => a == b
  | .dic ks xs, .dic js ys => decide (ks = js) && D.sames xs ys
  | _, _ => false
def D.sames : List D → List D → Bool
  | [], [] => true
  | x :: xs, y :: ys => x.same y && D.sames xs ys
  | _, _ => false
end
mutual
theorem D.same_eq : ∀ a b : D, a.same b = true → a = b
  | .non, b, h => by cases b <;> first | rfl | cases h
  | .bl a, b, h => by cases b <;> first | (simp only [D.same, beq_iff_eq] at h; rw [h]) | cases h
  | .int a, b, h => by cases b <;> first | (simp only [D.same, beq_iff_eq] at h; rw [h]) | cases h
  | .str a, b, h => by cases b <;> first | (simp only [D.same, decide_eq_true_eq] at h; rw [h]) | cases h
  | .tup xs, b, h => by
    cases b <;> first | cases h | skip
    rename_i ys
    rw [D.sames_eq xs ys (by simpa only [D.same] using h)]
  | .lst xs, b, h => by
    cases b <;> first | cases h | skip
    rename_i ys
    rw [D.sames_eq xs ys (by simpa only [D.same] using h)]
  | .fn a, b, h => by cases b <;> first | (simp only [D.same, beq_iff_eq] at h; rw [h]) | cases h
  | .cup, b, h => by cases b <;> first | rfl | cases h
  | .exc a, b, h => by cases b <;> first | (simp only [D.same, beq_iff_eq] at h; rw [h]) | cases h
  | .dic ks xs, b, h => by
    cases b <;> first | cases h | skip
    rename_i js ys
    simp only [D.same, Bool.and_eq_true, decide_eq_true_eq] at h
    rw [h.1, D.sames_eq xs ys h.2]
theorem D.sames_eq : ∀ a b : List D, D.sames a b = true → a = b
  | [], b, h => by cases b <;> first | rfl | cases h
  | x :: xs, b, h => by
    cases b with
    | nil => cases h
    | cons y ys =>
      simp only [D.sames, Bool.and_eq_true] at h
      rw [D.same_eq x y h.1, D.sames_eq xs ys h.2]
end
def Bi.name : Bi → Str
  | .len => "len" | .abs => "abs" | .int => "int" | .tuple => "tuple" | .all => "all" | .any => "any" | .sum => "sum" | .gcd => "gcd" | .list => "list" | .max => "max" | .min => "min" | .sorted => "sorted" | .dict => "dict" | .str => "str"
def Ty.name : Ty → Str
  | .int => "int" | .bool => "bool" | .str => "str" | .tuple => "tuple" | .list => "list"
def Ty.nm : Ty → String
  | .int => "int" | .bool => "bool" | .str => "str" | .tuple => "tuple" | .list => "list"
/-- an expression that is walked only -/
def Ex.val : Ex → Bool
  | .rng _ => false
  | .zip _ _ => false
  | .enu _ => false
  | .sgn _ => false
  | .rng2 _ _ => false
  | _ => true
def isZeroC : Ex → Bool
  | .c (.int i) => i == 0
  | _ => false
def Ex.isZip : Ex → Bool
  | .zip _ _ => true
  | .enu _ => true
  | _ => false
def isTup : Expr → Bool
  | .Tuple _ _ _ => true
  | _ => false
mutual
def mT (m : MC) : Tg → Expr → Bool
  | .n i, .Name x _ => decide (m.N[i]? = some x) && locl m.sc x
  | .t ts, .Tuple es _ _ => mTs m ts es
  | _, _ => false
def mTs (m : MC) : List Tg → List Expr → Bool
  | [], [] => true
  | a :: as, e :: es => mT m a e && mTs m as es
  | _, _ => false
end
mutual
/-- like mT, a name may be a cell -/
def mTc (m : MC) : Tg → Expr → Bool
  | .n i, .Name x _ => decide (m.N[i]? = some x) && loccell m.sc x
  | .t ts, .Tuple es _ _ => mTcs m ts es
  | _, _ => false
def mTcs (m : MC) : List Tg → List Expr → Bool
  | [], [] => true
  | a :: as, e :: es => mTc m a e && mTcs m as es
  | _, _ => false
end
def sameT : List (Str × D) → List (Str × D) → Bool
  | [], [] => true
  | (x, a) :: xs, (y, b) :: ys => decide (x = y) && a.same b && sameT xs ys
  | _, _ => false
theorem sameT_eq : ∀ a b : List (Str × D), sameT a b = true → a = b
  | [], b, h => by cases b <;> first | rfl | cases h
  | (x, a) :: xs, b, h => by
    cases b with
    | nil => cases h
    | cons q ys =>
      obtain ⟨y, b⟩ := q
      simp only [sameT, Bool.and_eq_true, decide_eq_true_eq] at h
      rw [h.1.1, D.same_eq a b h.1.2, sameT_eq xs ys h.2]
/-- what may stand ahead of a dot -/
def plainBase : Expr → Bool
  | .Name _ _ => true
  | .Call _ (_ :: _) _ _ => true
  | .Subscript _ _ _ => true
  | _ => false
def plainBaseD : Expr → Bool
  | .Name _ _ => true
  | .Dict _ _ _ => true
  | _ => false
/-- the values of a display stand behind their keys -/
def flatKV : List (Option Expr) → List Expr → List Expr
  | some k :: ks, v :: vs => k :: v :: flatKV ks vs
  | _, _ => []
def starless : Expr → Bool
  | .Starred _ _ => false
  | .Slice _ _ _ _ => false
  | .Set _ _ _ => false
  | _ => true
def noArgs : Arguments → Bool
  | ⟨[], [], .none, [], [], .none, []⟩ => true
  | _ => false
def ownP (m : MC) (own : List Nat) : List (Str × Nat) := own.map fun i => (m.N.getD i Str.empty, i)
def MC.blk (m : MC) (scope : Scope) : MC := ⟨m.N, relS scope m.sc, m.er && !m.hot, m.hot⟩
mutual
def mE (p : PC) : MC → Ex → Expr → Bool
  | m, .v i, .Name x _ => decide (m.N[i]? = some x) && vis m.sc x && okN x
  | m, .c d, .Constant k _ _ => cstOk d k
  | m, .g y d, .Name x _ => decide (y = x) && glb m.sc x && okN x && p.gc.any fun q => decide (q.1 = y) && q.2.same d
  | m, .f k, .Name x _ => decide (p.fn[k]? = some x) && glb m.sc x && okN x
  | m, .tup es, .Tuple xs _ _ => mL p m es xs
  | m, .lst es, .List xs _ => mL p m es xs
  | m, .bin o a b, .BinOp x o' y _ => decide (o = o') && (a.val && mE p m a x) && (b.val && mE p m b y)
  | m, .neg a, .UnaryOp .USub x _ => a.val && mE p m a x
  | m, .not a, .UnaryOp .Not x _ => a.val && mE p m a x
  | m, .cmp o a b, .Compare x [o'] [y] _ => decide (o = o') && (a.val && mE p m a x) && (b.val && mE p m b y) && !m.hot
  | m, .ch o o2 a b c, .Compare x [o', o2'] [y, z] _ => decide (o = o') && decide (o2 = o2') && (a.val && mE p m a x) && (b.val && mE p m b y) && (c.val && mE p m c z) && !decide (o = .In) && !decide (o = .NotIn) && !decide (o2 = .In) && !decide (o2 = .NotIn) && !m.hot
  | m, .bop o es, .BoolOp o' xs _ => decide (o = o') && mL p m es xs && !xs.isEmpty
  | m, .ite c a b, .IfExp z x y _ => (c.val && mE p m c z) && (a.val && mE p m a x) && (b.val && mE p m b y)
  | m, .ix a b, .Subscript x y _ => (a.val && mE p m a x) && (b.val && mE p m b y) && !m.hot
  | m, .call k es, .Call (.Name f _) xs [] _ => decide (p.fn[k]? = some f) && glb m.sc f && okN f && mL p m es xs && !m.hot
  | m, .callv i es, .Call (.Name x _) xs [] _ => decide (m.N[i]? = some x) && vis m.sc x && okN x && mL p m es xs && !xs.isEmpty && !m.hot
  | m, .bi b es, .Call (.Name f _) xs [] _ => decide (f = b.name) && glb m.sc f && (decide (b = .gcd) || p.bt.any fun y => decide (y = f)) && mL p m es xs && !xs.isEmpty && (!m.hot || decide (b = .str))
  | m, .isi a t, .Call (.Name f _) [x, .Name ty _] [] _ => decide (f = ("isinstance" : Str)) && glb m.sc f && (p.bt.any fun y => decide (y = f)) && decide (ty = t.name) && glb m.sc ty && (p.bt.any fun y => decide (y = ty)) && (a.val && mE p m a x)
  | m, .rng a, .Call (.Name f _) [x] [] _ => decide (f = ("range" : Str)) && glb m.sc f && (p.bt.any fun y => decide (y = f)) && (a.val && mE p m a x)
  | m, .zip a b, .Call (.Name f _) [x, y] [] _ => decide (f = ("zip" : Str)) && glb m.sc f && (p.bt.any fun y => decide (y = f)) && (a.val && mE p m a x) && (b.val && mE p m b y)
  | m, .lc own tg src ifs elt, .ListComp elt' [⟨tg', it', ifs', 0⟩] scope _ =>
    blkC m.N m.sc scope (ownP m own) && (tg.slots.all fun i => own.contains i) && (own.all fun i => decide (i < m.N.length)) && mTc ⟨m.N, scope, m.er, m.hot⟩ tg tg' && mE p m src it' && (!src.isZip || isTup tg') && mL p (m.blk scope) ifs ifs' && decide (ifs'.length ≤ 1) && (elt.val && mE p (m.blk scope) elt elt') && (!m.hot || src.val)
  | m, .err e, .Call (.Name f _) [.Lambda ps body scope _] [] _ => m.er && decide (f = p.er) && glb m.sc f && okN f && noArgs ps && lamSB m.sc scope && (e.val && mE p ⟨m.N, scope, false, false⟩ e body) && !m.hot
  | m, .isE i t k, .Call (.Name f _) [.Name x _, .Name c _] [] _ => m.hot && m.er && decide (f = ("isinstance" : Str)) && glb m.sc f && (p.bt.any fun y => decide (y = f)) && decide (m.N[i]? = some x) && vis m.sc x && okN x && decide (p.cn[k]? = some c) && glb m.sc c && okN c && t.all fun q => decide (p.sb q.1 k = some q.2)
  | m, .join a b, .Call (.Attribute (.Constant k j p0) attr apos) [e] [] cpos => decide (attr = ("join" : Str)) && (a.val && mE p m a (.Constant k j p0)) && (b.val && mE p m b e) && (apos.endLine == cpos.line)
  | m, .kget x t es, .Call (.Attribute (.Name y _) attr apos) xs [] cpos => decide (attr = ("get" : Str)) && decide (x = y) && glb m.sc y && okN y && (p.kd.any fun q => decide (q.1 = x) && sameT q.2 t) && mL p m es xs && (decide (xs.length = 1) || decide (xs.length = 2)) && (apos.endLine == cpos.line)
  | m, .sl a lo hi, .Subscript x (.Slice lo' hi' none _) _ => (a.val && mE p m a x) && (match lo' with | none => isNonC lo | some y => !isNonC lo && lo.val && mE p m lo y) && (match hi' with | none => isNonC hi | some y => !isNonC hi && hi.val && mE p m hi y)
  | m, .enu a, .Call (.Name f _) [x] [] _ => decide (f = ("enumerate" : Str)) && glb m.sc f && (p.bt.any fun y => decide (y = f)) && (a.val && mE p m a x)
  | m, .sgn a, x => starless x && (a.val && mE p m a x) && !m.hot
  | m, .lse a, .Call (.Name f _) [.Call (.Name g _) [x] [] _] [] _ => decide (f = ("list" : Str)) && glb m.sc f && (p.bt.any fun y => decide (y = f)) && decide (g = ("enumerate" : Str)) && glb m.sc g && (p.bt.any fun y => decide (y = g)) && (a.val && mE p m a x) && !m.hot
  | m, .idx a b, .Call (.Attribute x attr apos) [y] [] cpos => decide (attr = ("index" : Str)) && plainBase x && (a.val && mE p m a x) && (b.val && mE p m b y) && (apos.endLine == cpos.line)
  | m, .dic es, .Dict ks vs _ => mL p m es (flatKV ks vs) && (ks.all fun k => k.isSome) && decide (ks.length = vs.length) && decide (ks.length ≤ 15)
  | m, .rng2 a b, .Call (.Name f _) [x, y] [] _ => decide (f = ("range" : Str)) && glb m.sc f && (p.bt.any fun y => decide (y = f)) && (a.val && mE p m a x) && (b.val && mE p m b y)
  | m, .lrg a b, .Call (.Name f _) [.Call (.Name g _) [x, y] [] _] [] _ => decide (f = ("list" : Str)) && glb m.sc f && (p.bt.any fun y => decide (y = f)) && decide (g = ("range" : Str)) && glb m.sc g && (p.bt.any fun y => decide (y = g)) && (a.val && mE p m a x) && (b.val && mE p m b y) && !m.hot
  | m, .lrg a b, .Call (.Name f _) [.Call (.Name g _) [y] [] _] [] _ => decide (f = ("list" : Str)) && glb m.sc f && (p.bt.any fun y => decide (y = f)) && decide (g = ("range" : Str)) && glb m.sc g && (p.bt.any fun y => decide (y = g)) && isZeroC a && (b.val && mE p m b y) && !m.hot
  | m, .dget a es, .Call (.Attribute x attr apos) xs [] cpos => decide (attr = ("get" : Str)) && plainBaseD x && (a.val && mE p m a x) && mL p m es xs && (decide (xs.length = 1) || decide (xs.length = 2)) && (apos.endLine == cpos.line) && !m.hot
  | m, .sset a, .Call (.Name f _) [.Call (.Name g _) [x] [] _] [] _ => decide (f = ("sorted" : Str)) && glb m.sc f && (p.bt.any fun y => decide (y = f)) && decide (g = ("set" : Str)) && glb m.sc g && (p.bt.any fun y => decide (y = g)) && (a.val && mE p m a x) && !m.hot
  | m, .never, .Attribute _ _ _ => true
  | _, _, _ => false
def mL (p : PC) : MC → List Ex → List Expr → Bool
  | _, [], [] => true
  | m, e :: es, x :: xs => (e.val && mE p m e x) && mL p m es xs
  | _, _, _ => false
end

/-! ### readings -/
section
variable (g : G) (C : Addr) (wd : Words) (nw : Str) (call : Nat → List D → Cup → Re D)
/-- the slots that is names bear what the evaluator's slots say -/
def RelE (H : Hp) (A : Addr → Prop) (env : En) (σ : L2.St) (is : List Nat) : Prop := ∀ i ∈ is, ∀ b d, env[i]? = some (some (b, d)) → ∃ v, σ[i]? = some (some v) ∧ Rp g C H A d v
def Out {α : Type} (W : WX) (σ : L2.St) (H : Hp) (r : Re α) (P : α → Cup → Prop) : Prop := match r with
  | .ok d u => P d u
  | .exc k u => ∀ H', Ext C H H' → Wd g C H' u → W (.ref (g.ca k)) none σ H'
  | .bad => False
structure Post (H : Hp) (A : Addr → Prop) (fr : Bool) (d : D) (u : Cup) (v : V) (H' : Hp) : Prop where
  ext : Ext C H H'
  wd : Wd g C H' u
  rp : Rp g C H' (fun a => A a ∨ NL H a) d v
  fr : fr = true → d.isBox = true → ∀ p, v = .ref p → NL H p
structure Posts (H : Hp) (A : Addr → Prop) (ds : List D) (u : Cup) (vs : List V) (H' : Hp) : Prop where
  ext : Ext C H H'
  wd : Wd g C H' u
  rp : Rps g C H' (fun a => A a ∨ NL H a) ds vs
def tE (W : WX) (e : Ex) : TE := fun σ H Q => ∃ env u A, RelE g C H A env σ e.fv ∧ Wd g C H u ∧ Out g C W σ H (evE wd nw call e env u) fun d u' => ∀ v H', Post g C H A e.fresh d u' v H' → Q v H'
def tT (W : WX) (e : Ex) : TT := fun σ H Q => ∃ env u A, RelE g C H A env σ e.fv ∧ Wd g C H u ∧ Out g C W σ H (evE wd nw call e env u) fun d u' => ∃ b, d = .bl b ∧ ∀ H', Ext C H H' → Wd g C H' u' → Q b H'
def tL (W : WX) (es : List Ex) : TA := fun σ H Q => ∃ env u A, RelE g C H A env σ (Ex.fvs es) ∧ Wd g C H u ∧ Out g C W σ H (evL wd nw call es env u) fun ds u' => ∀ vs H', Posts g C H A ds u' vs H' → Q vs H'
def tB (W : WX) (o : BoolOp) (es : List Ex) : TE := fun σ H Q => ∃ env u A, RelE g C H A env σ (Ex.fvs es) ∧ Wd g C H u ∧ Out g C W σ H (evB wd nw call o es env u) fun d u' => ∀ v H', Post g C H A false d u' v H' → Q v H'
/-- a def's promise -/
def SpF (r : List D → Cup → Re D) : Sp := fun vs H Q E => ∃ C A ds u, Rps g C H A ds vs ∧ Wd g C H u ∧ Out g C (fun c d _ H => E c d H) [] H (r ds u) fun d u' => ∀ v H', Ext C H H' → Wd g C H' u' → Rp g C H' (fun a => A a ∨ NL H a) d v → Q v H'
end
section
variable {g : G} {C : Addr} {wd : Words} {nw : Str} {call : Nat → List D → Cup → Re D} {H H1 H2 : Hp} {A A' : Addr → Prop} {env : En} {σ : L2.St} {is js : List Nat} {W : WX} {α β : Type}
theorem RelE.sub (h : RelE g C H A env σ is) (s : ∀ i ∈ js, i ∈ is) : RelE g C H A env σ js := fun i hi => h i (s i hi)
theorem RelE.left (h : RelE g C H A env σ (is ++ js)) : RelE g C H A env σ is := h.sub fun _ hi => List.mem_append_left _ hi
theorem RelE.right (h : RelE g C H A env σ (is ++ js)) : RelE g C H A env σ js := h.sub fun _ hi => List.mem_append_right _ hi
theorem RelE.ext (h : RelE g C H A env σ is) (x : Ext C H H1) : RelE g C H1 A env σ is := fun i hi b d e => by
  obtain ⟨v, e1, e2⟩ := h i hi b d e
  exact ⟨v, e1, x.rp e2⟩
theorem RelE.mono (h : RelE g C H A env σ is) (k : ∀ a, A a → A' a) : RelE g C H A' env σ is := fun i hi b d e => by
  obtain ⟨v, e1, e2⟩ := h i hi b d e
  exact ⟨v, e1, e2.mono k⟩
theorem Out.imp {r : Re α} {P P' : α → Cup → Prop} (h : Out g C W σ H r P) (k : ∀ a u, P a u → P' a u) : Out g C W σ H r P' := by
  cases r with
  | ok a u => exact k a u h
  | exc k u => exact h
  | bad => exact h
/-- the first step of two -/
theorem Out.bind {r : Re α} {f : α → Cup → Re β} {P : β → Cup → Prop} (h : Out g C W σ H (r.bind f) P) : Out g C W σ H r fun a u => Out g C W σ H (f a u) P := by
  cases r with
  | ok a u => exact h
  | exc k u => exact h
  | bad => exact h
theorem Out.up {r : Re α} {P : α → Cup → Prop} (x : Ext C H H1) (h : Out g C W σ H r P) : Out g C W σ H1 r P := by
  cases r with
  | ok a u => exact h
  | exc k u => exact fun H' e w => h H' (x.trans e) w
  | bad => exact h
theorem Posts.toPost {fr : Bool} {A0 : Addr → Prop} {d : D} {u : Cup} {v : V} (x : Ext C H H1) (h : Post g C H1 A fr d u v H2) : Post g C H A fr d u v H2 := ⟨x.trans h.ext, h.wd, h.rp.mono fun a ha => ha.elim .inl fun n => .inr (x.free a n), fun f ed p e => x.free p (h.fr f ed p e)⟩
end
end Ev

/-! Each expression of the text keeps the reading by the evaluator: the parts. -/
namespace Ev
open PySem PySem.Spec PyProof.Rows L2 LamX

theorem peImp {X : Cx} {e : Expr} {t t' : TE} (h : PE X e t) (k : ∀ σ H Q, t' σ H Q → t σ H Q) : PE X e t' := ⟨fun pins s σ H Q I q => h.run pins s σ H Q I (k σ H Q q)⟩
theorem ptImp {X : Cx} {e : Expr} {t t' : TT} (h : PT X e t) (k : ∀ σ H Q, t' σ H Q → t σ H Q) : PT X e t' := ⟨fun pins s σ H Q I q => h.run pins s σ H Q I (k σ H Q q)⟩
theorem paImp {X : Cx} {e : List Expr} {t t' : TA} (h : PA X e t) (k : ∀ σ H Q, t' σ H Q → t σ H Q) : PA X e t' := ⟨fun pos pins s σ H Q I q => h.run pos pins s σ H Q I (k σ H Q q)⟩

/-- where the defs, the classes stand; the tables -/
structure Fx where
  fa : Nat → Addr
  ca : Nat → Addr
  T : List (Addr × Str)
  kn : Nat → Prop
  xa : Addr
  xk : Nat
abbrev gx (X : Cx) (f : Fx) : G := ⟨X.K, X.mg, f.fa, f.ca, f.T, f.kn, f.xa, f.xk⟩
/-- what the law's own word for an error makes of its lambda -/
def TTe (g : G) (C : Addr) (wd : Words) (nw : Str) : (XK → Hp → VK → Prop) → Hp → VK → Prop := fun tl H Q =>
  tl (fun cls d H' => d = none ∧ ∃ k x u, cls = .ref (g.ca k) ∧ wd k = some x ∧ Wd g C H' u ∧ ∀ H'', Ext C H' H'' → Wd g C H'' u → Q (.str x) H'') H fun _ H' => Q (.str nw) H'
/-- the def that calls a lambda and gives a word for its error; the maker's table -/
def ErOk (p : PC) (f : Fx) (wd : Words) (nw : Str) (n : Nat) (X : Cx) : Prop :=
  ∃ (ge c P : Addr) (pg : Arguments) (bg : List Stmt) (sg : Scope) (dV kV doc pm cdv ct oc : Value) (an od : Option Addr) (osl : Array (Option Value)) (Ng : List Str) (a : Str),
    X.mg p.er = some (.ref ge) ∧ PySem.W.keepIn X.K (.ref ge) = true ∧ X.K.lookup ge = some ⟨oc, od, .func (PySem.W.fnOf p.er p.er pg bg sg dV kV doc pm an cdv ct), osl⟩ ∧ PySem.W.codeIn X.K cdv p.er = true ∧ L2.Binds X.K (PySem.W.fnOf p.er p.er pg bg sg dV kV doc pm an cdv ct) [a] [] ∧
    FnScope Ng [a] sg ∧ Ng[0]? = some a ∧ Vis sg a ∧ (a == ("__debug__" : Str)) = false ∧ (a == ("__classdict__" : Str)) = false ∧ (∀ C, LamN.GivesTo X Ng p.er sg ge cdv bg a (X.env.qual ++ "<lambda>") (TTe (gx X f) C wd nw)) ∧
    TabB X.base X.mg c P ∧ X.env.code = .ref c ∧ (P, X.env.qual ++ "<lambda>") ∈ f.T ∧ (∀ q ∈ f.T, q.1 = P → q.2 = X.env.qual ++ "<lambda>") ∧ Room (3 * n + 2) X.A
/-- a module's dict with text keys -/
def KTab (K : PySem.W.Frag) (w : World) (a : Addr) (t : List (Str × D)) : Prop :=
  (∃ es n, KDict K w a es n) ∧ ∀ z, ∃ r, PySem.W.nsIn K a z = some r ∧ match r, t.lookup z with
    | none, none => True
    | some u, some d => ∃ v, d.sc = some v ∧ RelV v u
    | _, _ => False
/-- what a context must be for a look's context -/
structure XOk (p : PC) (f : Fx) (wd : Words) (nw : Str) (pr : List FD) (n : Nat) (X : Cx) (m : MC) : Prop where
  N : X.N = m.N
  nd : X.N.Nodup
  sc : X.env.scope = m.sc
  calm : m.hot = false → X.calm = true
  room : m.hot = false → Room (3 * n) X.A
  hot : m.hot = true → L2H.HotC X
  fn : ∀ k x, p.fn[k]? = some x → X.mg x = some (.ref (f.fa k)) ∧ PySem.W.keepIn X.K (.ref (f.fa k)) = true ∧ ∃ fd ps, Binds X.K fd ps [] ∧ FnOk X.prog X.w X.K X.mg X.base (L2N.CX X.prog X.w) (3 * n) (f.fa k) fd ps (SpF (gx X f) (run wd nw pr n k))
  kn : ∀ k, f.kn k ↔ ∃ x, p.fn[k]? = some x
  bt : ∀ x ∈ p.bt, X.mg x = none
  gcd : X.mg "gcd" = some (.builtin "math.gcd")
  er : m.er = true → m.hot = false → ErOk p f wd nw n X
  isx : m.hot = true → m.er = true → CallR X (.builtin "isinstance") (rIsE X.K (f.ca f.xk) f.xa) ∧ (∀ k b, p.sb f.xk k = some b → PySem.W.kitOne X.K (.ref (f.ca f.xk)) (.ref (f.ca k)) = some b) ∧ ∀ k x, p.cn[k]? = some x → X.mg x = some (.ref (f.ca k))
  kd : ∀ q ∈ p.kd, ∃ a, X.mg q.1 = some (.ref a) ∧ KTab X.K X.w a q.2
  gc : ∀ q ∈ p.gc, ∃ u v, X.mg q.1 = some u ∧ RelV v u ∧ ∀ C H A, Rp (gx X f) C H A q.2 v

section
variable {p : PC} {f : Fx} {wd : Words} {nw : Str} {pr : List FD} {n : Nat} {X : Cx} {m : MC} {C : Addr} {W : WX}
theorem okN_of {x : Str} (h : okN x = true) : (x == ("__debug__" : Str)) = false ∧ (x == ("__classdict__" : Str)) = false ∧ x ≠ "__name__" := by
  unfold okN at h
  simp only [Bool.and_eq_true, Bool.not_eq_true', decide_eq_false_iff_not] at h
  exact ⟨h.1.1, h.1.2, h.2⟩
theorem XOk.vis (h : XOk p f wd nw pr n X m) {x : Str} (e : Ev.vis m.sc x = true) : Vis X.env.scope x := by
  unfold Ev.vis at e
  rw [← h.sc] at e
  split at e <;> first | exact .inl (by assumption) | exact .inr (.inl (by assumption)) | exact .inr (.inr (by assumption)) | cases e
theorem XOk.glb (h : XOk p f wd nw pr n X m) {x : Str} (e : Ev.glb m.sc x = true) : Gl X x := by
  unfold Ev.glb at e
  rw [← h.sc] at e
  show X.env.scope.names.lookup x = some .globalImplicit
  split at e <;> first | assumption | cases e

section
variable {call : Nat → List D → Cup → Re D}
theorem pe_v (h : XOk p f wd nw pr n X m) {i : Nat} {x : Str} {pos : Pos} (e : mE p m (.v i) (.Name x pos) = true) : PE X (.Name x pos) (tE (gx X f) C wd nw call W (.v i)) := by
  simp only [mE, Bool.and_eq_true, decide_eq_true_eq] at e
  obtain ⟨⟨e1, e2⟩, e3⟩ := e
  obtain ⟨o1, o2, o3⟩ := okN_of e3
  refine peImp (pe_var (i := i) (by rw [h.N]; exact e1) (h.vis e2) o1 o2) fun σ H Q q => ?_
  obtain ⟨env, u, A, rel, w, o⟩ := q
  simp only [evE] at o
  split at o
  · rename_i b d ed
    obtain ⟨v, h1, h2⟩ := rel i (by simp [Ex.fv]) b d ed
    exact ⟨v, h1, o v H ⟨w.refl, w, h2.mono fun _ => .inl, fun z => by cases z⟩⟩
  · exact o.elim
theorem pe_c {d : D} {k : Const} {j : Nat} {pos : Pos} (e : cstOk d k = true) : PE X (.Constant k j pos) (tE (gx X f) C wd nw call W (.c d)) := by
  have fin : ∀ {σ : L2.St} {H : Hp} {Q : VK} {v : V}, (∀ C A, Rp (gx X f) C H A d v) → tE (gx X f) C wd nw call W (.c d) σ H Q → Q v H := fun {σ H Q v} r q => by
    obtain ⟨env, u, A, rel, w, o⟩ := q
    simp only [evE] at o
    exact o _ H ⟨w.refl, w, r _ _, fun z => by cases z⟩
  cases d <;> cases k <;> first | cases e | skip
  · exact peImp pe_non fun σ H Q q => fin (fun _ _ => rfl) q
  · simp only [cstOk, beq_iff_eq] at e
    subst e
    exact peImp pe_bl fun σ H Q q => fin (fun _ _ => rfl) q
  · simp only [cstOk, beq_iff_eq] at e
    subst e
    exact peImp pe_int fun σ H Q q => fin (fun _ _ => rfl) q
  · simp only [cstOk, decide_eq_true_eq] at e
    subst e
    exact peImp pe_str fun σ H Q q => fin (fun _ _ => rfl) q
theorem pe_g (h : XOk p f wd nw pr n X m) {y x : Str} {d : D} {pos : Pos} (e : mE p m (.g y d) (.Name x pos) = true) : PE X (.Name x pos) (tE (gx X f) C wd nw call W (.g y d)) := by
  simp only [mE, Bool.and_eq_true, decide_eq_true_eq, List.any_eq_true] at e
  obtain ⟨⟨⟨e1, e2⟩, e3⟩, q, hq, e4, e5⟩ := e
  obtain ⟨o1, o2, o3⟩ := okN_of e3
  obtain ⟨u, v, h1, h2, h3⟩ := h.gc q hq
  subst e1
  rw [e4] at h1
  have e6 := D.same_eq _ _ e5
  refine peImp (pe_glob (h.glb e2) h1 h2 o1) fun σ H Q q' => ?_
  obtain ⟨env, u, A, rel, w, o⟩ := q'
  simp only [evE] at o
  exact o _ H ⟨w.refl, w, by rw [← e6]; exact h3 _ _ _, fun z => by cases z⟩
theorem pe_f (h : XOk p f wd nw pr n X m) {k : Nat} {x : Str} {pos : Pos} (e : mE p m (.f k) (.Name x pos) = true) : PE X (.Name x pos) (tE (gx X f) C wd nw call W (.f k)) := by
  simp only [mE, Bool.and_eq_true, decide_eq_true_eq] at e
  obtain ⟨⟨e1, e2⟩, e3⟩ := e
  obtain ⟨o1, o2, o3⟩ := okN_of e3
  obtain ⟨h1, h2, h3⟩ := h.fn k x e1
  refine peImp (pe_glob (v := .ref (f.fa k)) (h.glb e2) h1 rfl o1) fun σ H Q q' => ?_
  obtain ⟨env, u, A, rel, w, o⟩ := q'
  simp only [evE] at o
  exact o _ H ⟨w.refl, w, ⟨(h.kn k).mpr ⟨x, e1⟩, rfl⟩, fun z => by cases z⟩

/-! ### the expressions of arguments are no stars, no slices, no sets, no comprehensions where that is asked -/
theorem mE_starless : ∀ {e : Ex} {x : Expr}, mE p m e x = true → starless x = true := fun {e x} h => by
  cases x with
  | Starred _ _ => cases e <;> simp [mE, starless] at h
  | Slice _ _ _ _ => cases e <;> simp [mE, starless] at h
  | Set _ _ _ => cases e <;> simp [mE, starless] at h
  | _ => rfl
theorem star_of {x : Expr} {xs : List Expr} {env : Env} (h : starless x = true) : starEach (x :: xs) env = (false, eval x env) :: starEach xs env := by
  cases x <;> first | rfl | cases h
theorem mL_stars : ∀ {es : List Ex} {xs : List Expr} {env : Env} {pos : Pos}, mL p m es xs = true → (backTo pos (starEach xs env)).any (·.1) = false
  | [], [], env, pos, _ => rfl
  | [], x :: xs, env, pos, h => by cases h
  | e :: es, [], env, pos, h => by cases h
  | e :: es, x :: xs, env, pos, h => by
    simp only [mL, Bool.and_eq_true] at h
    rw [star_of (mE_starless h.1.2)]
    show ((false || (backTo pos (starEach xs env)).any (·.1)) = false)
    rw [mL_stars (env := env) (pos := pos) h.2]
    rfl
theorem mL_starless : ∀ {es : List Ex} {xs : List Expr}, mL p m es xs = true → ∀ y ∈ xs, starless y = true
  | [], [], _, y, hy => by cases hy
  | [], _ :: _, h, _, _ => by cases h
  | _ :: _, [], _, _, hy => by cases hy
  | e :: es, x :: xs, h, y, hy => by
    simp only [mL, Bool.and_eq_true] at h
    rcases List.mem_cons.mp hy with rfl | hy
    · exact mE_starless h.1.2
    · exact mL_starless h.2 y hy
theorem nobeh {op : CmpOp} {b : Expr} (h : starless b = true) : behindInMarks op b = false := by
  cases b <;> first | rfl | cases h
theorem plainIx_of {b : Expr} (h : starless b = true) : PlainIx b := by
  intro o i
  cases b <;> first | rfl | cases h

/-! ### displays -/
theorem pa_nil' : PA X [] (tL (gx X f) C wd nw call W []) := paImp pa_nil fun σ H Q q => by
  obtain ⟨env, u, A, rel, w, o⟩ := q
  simp only [evL] at o
  exact o [] H ⟨w.refl, w, rfl⟩
theorem pa_cons' {e : Ex} {es : List Ex} {x : Expr} {xs : List Expr} (ha : PE X x (tE (gx X f) C wd nw call W e)) (hr : PA X xs (tL (gx X f) C wd nw call W es)) (hs : starless x = true) : PA X (x :: xs) (tL (gx X f) C wd nw call W (e :: es)) := by
  refine paImp (pa_cons ha hr (star_of hs)) fun σ H Q q => ?_
  obtain ⟨env, u, A, rel, w, o⟩ := q
  simp only [evL] at o
  have rel' : RelE (gx X f) C H A env σ (e.fv ++ Ex.fvs es) := rel
  refine ⟨env, u, A, rel'.left, w, o.bind.imp fun d u1 o1 v H1 po => ?_⟩
  refine ⟨env, u1, A, rel'.right.ext po.ext, po.wd, (o1.bind.up po.ext).imp fun ds u2 o2 vs H2 ps => ?_⟩
  refine o2 (v :: vs) H2 ⟨po.ext.trans ps.ext, ps.wd, v, vs, rfl, ps.ext.rp po.rp, ps.rp.mono fun a ha => ha.elim .inl fun n => .inr (po.ext.free a n)⟩
theorem pe_tup' {es : List Ex} {xs : List Expr} {k : Nat} {pos : Pos} (h : PA X xs (tL (gx X f) C wd nw call W es)) : PE X (.Tuple xs k pos) (tE (gx X f) C wd nw call W (.tup es)) := by
  refine peImp (pe_tup h) fun σ H Q q => ?_
  obtain ⟨env, u, A, rel, w, o⟩ := q
  simp only [evE] at o
  refine ⟨env, u, A, rel, w, o.bind.imp fun ds u1 o1 vs H1 po => ?_⟩
  split at o1
  · rename_i hl
    refine ⟨by rw [← po.rp.length]; exact Nat.le_trans hl big_le, fun p np => o1 _ _ ⟨po.ext.trans (po.wd.newX np), po.wd.newW np, ⟨p, vs, rfl, SqT.of upd_same, (po.wd.newX np).rps po.rp⟩, fun z => by cases z⟩⟩
  · exact o1.elim
theorem pe_lst' {es : List Ex} {xs : List Expr} {pos : Pos} (h : PA X xs (tL (gx X f) C wd nw call W es)) : PE X (.List xs pos) (tE (gx X f) C wd nw call W (.lst es)) := by
  refine peImp (pe_lst h) fun σ H Q q => ?_
  obtain ⟨env, u, A, rel, w, o⟩ := q
  simp only [evE] at o
  refine ⟨env, u, A, rel, w, o.bind.imp fun ds u1 o1 vs H1 po => ?_⟩
  split at o1
  · rename_i hl
    refine ⟨by rw [← po.rp.length]; exact Nat.le_trans hl big_le, fun p np => o1 _ _ ⟨po.ext.trans (po.wd.newX np), po.wd.newW np, ⟨p, vs, rfl, upd_same, .inr (po.ext.free p (NL.of np)), (ne_of_none po.wd.cup np).symm, (po.wd.newX np).rps po.rp⟩, fun _ _ p' e => ?_⟩⟩
    cases e
    exact po.ext.free p (NL.of np)
  · exact o1.elim
end
end
end Ev

/-! Operators, comparisons, tests. -/
namespace Ev
open PySem PySem.Spec PyProof.Rows L2 LamX
section
variable {p : PC} {f : Fx} {wd : Words} {nw : Str} {pr : List FD} {n : Nat} {X : Cx} {m : MC} {C : Addr} {W : WX} {call : Nat → List D → Cup → Re D}

theorem tE_bin {ex a b : Ex} {k : D → D → Cup → Re D} {r : R2} {σ : L2.St} {H : Hp} {Q : VK} (hE : ∀ env u, evE wd nw call ex env u = (evE wd nw call a env u).bind fun x u1 => (evE wd nw call b env u1).bind fun y u2 => k x y u2)
    (hfv : ex.fv = a.fv ++ b.fv) (q : tE (gx X f) C wd nw call W ex σ H Q)
    (h : ∀ A x y u2 v w H2, Rp (gx X f) C H2 (fun a => A a ∨ NL H a) x v → Rp (gx X f) C H2 (fun a => A a ∨ NL H a) y w → Ext C H H2 → Wd (gx X f) C H2 u2 →
      Out (gx X f) C W σ H2 (k x y u2) (fun d u' => ∀ v' H', Post (gx X f) C H A ex.fresh d u' v' H' → Q v' H') → r v w H2 Q) :
    tOp r (tE (gx X f) C wd nw call W a) (tE (gx X f) C wd nw call W b) σ H Q := by
  obtain ⟨env, u, A, rel, w, o⟩ := q
  rw [hE] at o
  rw [hfv] at rel
  refine ⟨env, u, A, rel.left, w, o.bind.imp fun x u1 o1 v H1 po => ?_⟩
  refine ⟨env, u1, A, rel.right.ext po.ext, po.wd, (o1.bind.up po.ext).imp fun y u2 o2 w2 H2 ps => ?_⟩
  exact h A x y u2 v w2 H2 (ps.ext.rp po.rp) (ps.rp.mono fun a ha => ha.elim .inl fun n => .inr (po.ext.free a n)) (po.ext.trans ps.ext) ps.wd (o2.up (po.ext.trans ps.ext))

def rB (K : PySem.W.Frag) : Operator → R2
  | .Add => fun x y H Q => rI0 (fun i j => .int (i + j)) x y H Q ∨ rCat x y H Q ∨ rCatA K x y H Q ∨ ∃ i j, x = .str i ∧ y = .str j ∧ i.length + j.length ≤ sizeLine ∧ Q (.str (i ++ j)) H
  | .Sub => rI0 fun i j => .int (i - j)
  | .Mult => fun x y H Q => rI CMul (fun i j => .int (i * j)) x y H Q ∨ rI CMulW (fun i j => .int (i * j)) x y H Q ∨ rRep x y H Q
  | .FloorDiv => rI CDivW fun i j => .int (i / j)
  | .Mod => rI (fun _ j => 0 < j) fun i j => .int (i % j)
  | .Pow => rI CPow fun i j => .int (i ^ j.toNat)
  | _ => fun _ _ _ _ => False
theorem op_no {o : Value → Value → Sem Value} : OpR X o (fun _ _ _ _ => False) := fun _ _ _ _ _ _ _ _ _ _ _ _ h => h.elim
theorem op_B : ∀ o : Operator, OpR X (binaryOp o) (rB X.K o)
  | .Add => OpR.or op_add (OpR.or op_cat (OpR.or op_catA op_add_str))
  | .Sub => op_sub
  | .Mult => OpR.or op_mul (OpR.or op_mulW op_rep)
  | .FloorDiv => op_fdivW
  | .Mod => op_mod
  | .Pow => op_pow
  | .MatMult => op_no
  | .Div => op_no
  | .LShift => op_no
  | .RShift => op_no
  | .BitOr => op_no
  | .BitXor => op_no
  | .BitAnd => op_no
theorem natAbs64 {i : Int} (h : i.natAbs < 18446744073709551616) : -(2 ^ 64) < i ∧ i < 2 ^ 64 := by omega
theorem val_bin {o : Operator} {x y d : D} {v w : V} {H H2 : Hp} {A : Addr → Prop} {u : Cup} {Q : VK} {fr : Bool} (e : binV o x y = some d) (hx : Rp (gx X f) C H2 (fun a => A a ∨ NL H a) x v) (hy : Rp (gx X f) C H2 (fun a => A a ∨ NL H a) y w)
    (hE : Ext C H H2) (hW : Wd (gx X f) C H2 u) (h : ∀ v' H', Post (gx X f) C H A fr d u v' H' → Q v' H') : rB X.K o v w H2 Q := by
  have fi : ∀ z : Int, d = .int z → Q (.int z) H2 := fun z ez => h _ _ ⟨hE, hW, by rw [ez]; rfl, fun _ _ p ep => by cases ep⟩
  unfold binV at e
  split at e
  · cases e; cases hx; cases hy
    exact .inl ⟨_, _, rfl, rfl, fi _ rfl⟩
  · cases e; cases hx; cases hy
    exact ⟨_, _, rfl, rfl, fi _ rfl⟩
  · split at e
    · rename_i i j hm
      cases e; cases hx; cases hy
      unfold mulOk at hm
      simp only [Bool.or_eq_true, decide_eq_true_eq] at hm
      rcases hm with (hm | hm) | hm
      · exact .inl ⟨_, _, rfl, rfl, .inl (natAbs64 hm), fi _ rfl⟩
      · exact .inl ⟨_, _, rfl, rfl, .inr (natAbs64 hm), fi _ rfl⟩
      · exact .inr (.inl ⟨_, _, rfl, rfl, hm, fi _ rfl⟩)
    · cases e
  · split at e
    · rename_i i j hm
      cases e; cases hx; cases hy
      exact ⟨_, _, rfl, rfl, hm, fi _ rfl⟩
    · cases e
  · split at e
    · rename_i i j hm
      cases e; cases hx; cases hy
      exact ⟨_, _, rfl, rfl, hm, fi _ rfl⟩
    · cases e
  · split at e
    · rename_i i j hm
      cases e; cases hx; cases hy
      exact ⟨_, _, rfl, rfl, ⟨hm.1, hm.2.1, by have := hm.2.2; omega⟩, fi _ rfl⟩
    · cases e
  · split at e
    · rename_i xs ys hm
      cases e
      obtain ⟨a, vs, rfl, h1, h2, h3, h4⟩ := hx
      obtain ⟨b, ws, rfl, k1, k2, k3, k4⟩ := hy
      have l1 := h4.length
      have l2 := k4.length
      refine .inr (.inl ⟨a, b, vs, ws, rfl, rfl, h1, k1, by have := big_le; omega, fun p np => h _ _ ⟨hE.trans (hW.newX np), hW.newW np, ⟨p, _, rfl, upd_same, .inr (hE.free p (NL.of np)), (ne_of_none hW.cup np).symm, (hW.newX np).rps (h4.app k4)⟩, fun _ _ p' e' => ?_⟩⟩)
      cases e'
      exact hE.free p (NL.of np)
    · cases e
  · split at e
    · rename_i xs ys hm
      cases e
      obtain ⟨a, vs, rfl, h1, h4⟩ := hx
      obtain ⟨b, ws, rfl, k1, k4⟩ := hy
      have l1 := h4.length
      have l2 := k4.length
      refine .inr (.inr (.inl ⟨a, b, vs, ws, rfl, rfl, h1, k1, by have := big_le; omega, fun ev => ?_, fun _ ew => ?_, fun _ _ p np => ?_⟩))
      · subst ev
        have ex : xs = [] := List.length_eq_zero_iff.mp l1
        exact h _ _ ⟨hE, hW, by rw [ex]; exact ⟨b, ws, rfl, k1, k4⟩, fun _ ed => by cases ed⟩
      · subst ew
        have ey : ys = [] := List.length_eq_zero_iff.mp l2
        exact h _ _ ⟨hE, hW, by rw [ey, List.append_nil]; exact ⟨a, vs, rfl, h1, h4⟩, fun _ ed => by cases ed⟩
      · exact h _ _ ⟨hE.trans (hW.newX np), hW.newW np, ⟨p, _, rfl, SqT.of upd_same, (hW.newX np).rps (h4.app k4)⟩, fun _ ed => by cases ed⟩
    · cases e
  · split at e
    · rename_i xs ys hm
      cases e; cases hx; cases hy
      exact .inr (.inr (.inr ⟨_, _, rfl, rfl, by have := big_le; omega, h _ _ ⟨hE, hW, rfl, fun _ ed => by cases ed⟩⟩))
    · cases e
  · split at e
    · rename_i xs k hm
      cases e; cases hy
      obtain ⟨a, vs, rfl, h1, h2, h3, h4⟩ := hx
      have l1 := h4.length
      obtain ⟨m1, m2, m3⟩ := hm
      refine .inr (.inr ⟨a, k, vs, rfl, rfl, h1, by omega, by omega, by rw [← l1]; exact Nat.le_trans m3 big_le, fun p np => h _ _ ⟨hE.trans (hW.newX np), hW.newW np, ⟨p, _, rfl, upd_same, .inr (hE.free p (NL.of np)), (ne_of_none hW.cup np).symm, (hW.newX np).rps (h4.rep _)⟩, fun _ _ p' e' => ?_⟩⟩)
      cases e'
      exact hE.free p (NL.of np)
    · cases e
  · cases e
theorem pe_bin' {o : Operator} {a b : Ex} {x y : Expr} {pos : Pos} (ha : PE X x (tE (gx X f) C wd nw call W a)) (hb : PE X y (tE (gx X f) C wd nw call W b)) : PE X (.BinOp x o y pos) (tE (gx X f) C wd nw call W (.bin o a b)) := by
  refine peImp (pe_op (op_B o) ha hb) fun σ H Q q => tE_bin (k := fun x y u2 => lift (binV o x y) u2) (fun env u => by rw [evE]) (by rw [Ex.fv]) q fun A x y u2 v w H2 hx hy hE hW h => ?_
  cases e : binV o x y with
  | none =>
    rw [e] at h
    exact h.elim
  | some d =>
    rw [e] at h
    exact val_bin e hx hy hE hW h

/-! ### comparisons -/
theorem valV_zip {j : L2.Key} : ∀ {ks : List L2.Key} {vs : List V}, valV (ks.zip vs) j = lkK ks vs j
  | [], _ => by simp [lkK, valV_nil]
  | _ :: _, [] => by simp [lkK, valV_nil]
  | k :: ks, v :: vs => by
    rw [List.zip_cons_cons, lkK]
    by_cases h : k = j
    · rw [valV_pos (p := (k, v)) h, if_pos h]
    · rw [valV_neg (p := (k, v)) h, if_neg h, valV_zip]
theorem lkK_some {α : Type} {j : L2.Key} : ∀ {ks : List L2.Key} {vs : List α}, ks.length = vs.length → (lkK ks vs j).isSome = hasK ks j
  | [], [], _ => rfl
  | [], _ :: _, h => by simp at h
  | _ :: _, [], h => by simp at h
  | k :: ks, v :: vs, h => by
    rw [lkK]
    unfold hasK
    rw [List.any_cons]
    by_cases e : k = j
    · rw [if_pos e]
      simp [e]
    · rw [if_neg e, lkK_some (by simpa using h)]
      simp [e, hasK]
def rInK (b : Bool) : R2 := fun x y H Q => ∃ (a : Addr) (kvs : List (L2.Key × V)) (k : L2.Key), x = kV k ∧ y = .ref a ∧ H a = some (.dK kvs) ∧ Q (.bl (if b then !(valV kvs k).isSome else (valV kvs k).isSome)) H
theorem op_in_dK (hu : X.A.units + 1 < cLine) : OpR X (compareOp .In) (rInK false) := by
  intro pins s σ H x y v u Q I rx ry h
  obtain ⟨a, kvs, k, rfl, rfl, e, q⟩ := h
  cases ry
  exact d_in hu I (DGet.k e) rx fun s3 I3 => ⟨.bl (valV kvs k).isSome, H, I3, rfl, q⟩
theorem op_notIn_dK (hu : X.A.units + 1 < cLine) : OpR X (compareOp .NotIn) (rInK true) := by
  intro pins s σ H x y v u Q I rx ry h
  obtain ⟨a, kvs, k, rfl, rfl, e, q⟩ := h
  cases ry
  exact d_notIn hu I (DGet.k e) rx fun s3 I3 => ⟨.bl (!(valV kvs k).isSome), H, I3, rfl, q⟩
def rC (K : PySem.W.Frag) : CmpOp → R2
  | .Eq => rEqD K
  | .NotEq => rNeD K
  | .Lt => rI0 fun i j => .bl (decide (i < j))
  | .LtE => rI0 fun i j => .bl (decide (i ≤ j))
  | .Gt => rI0 fun i j => .bl (decide (j < i))
  | .GtE => rI0 fun i j => .bl (decide (j ≤ i))
  | .In => fun x y H Q => rIn K false x y H Q ∨ (∃ i j, x = .str i ∧ y = .str j ∧ Q (.bl (!(Builtin.Str.occurrences j i 0 j.length 1).isEmpty)) H) ∨ rInK false x y H Q
  | .NotIn => fun x y H Q => rIn K true x y H Q ∨ (∃ i j, x = .str i ∧ y = .str j ∧ Q (.bl (!(!(Builtin.Str.occurrences j i 0 j.length 1).isEmpty))) H) ∨ rInK true x y H Q
  | .Is => fun x y H Q => y = .non ∧ Q (.bl (decide (x = .non))) H
  | .IsNot => fun x y H Q => y = .non ∧ Q (.bl (!decide (x = .non))) H
theorem op_C (hr : Room n X.A) : ∀ o : CmpOp, OpR X (compareOp o) (rC X.K o)
  | .Eq => op_eqD hr.units
  | .NotEq => op_neD hr.units
  | .Lt => op_lt
  | .LtE => op_le
  | .Gt => op_gt
  | .GtE => op_ge
  | .In => OpR.or op_in_seq (OpR.or op_in_str (op_in_dK (by have := hr.units; omega)))
  | .NotIn => OpR.or op_notIn_seq (OpR.or op_notin_str (op_notIn_dK (by have := hr.units; omega)))
  | .Is => op_isN
  | .IsNot => op_notN
theorem D.eq_some {x y : D} {b : Bool} (e : D.eq x y = some b) : ∃ q r, x.toP = some q ∧ y.toP = some r ∧ SeqAt.shaped q = true ∧ SeqAt.shaped r = true ∧ b = PyData.eqv q r := by
  unfold D.eq at e
  split at e
  · rename_i q r e1 e2
    split at e
    · rename_i hs
      rw [Bool.and_eq_true] at hs
      exact ⟨q, r, e1, e2, hs.1, hs.2, (Option.some.inj e).symm⟩
    · cases e
  · cases e
theorem inS_some {x : D} {ys : List D} {b : Bool} (e : inS x ys = some b) : ∃ v vs, x.sc = some v ∧ scs ys = some vs ∧ b = inV v vs := by
  unfold inS at e
  split at e
  · rename_i q r e1 e2
    exact ⟨q, r, e1, e2, (Option.some.inj e).symm⟩
  · cases e
theorem non_dec {g : G} {H : Hp} {A : Addr → Prop} {x : D} {v : V} (h : Rp g C H A x v) : decide (v = V.non) = x.isNon := by
  cases x with
  | non => cases h; rfl
  | bl b => cases h; rfl
  | int b => cases h; rfl
  | str b => cases h; rfl
  | tup b => obtain ⟨_, _, rfl, _⟩ := h; rfl
  | lst b => obtain ⟨_, _, rfl, _⟩ := h; rfl
  | fn b => obtain ⟨_, rfl⟩ := h; rfl
  | cup => cases h; rfl
  | exc k => obtain ⟨rfl, _⟩ := h; rfl
  | dic ks xs => obtain ⟨_, _, rfl, _⟩ := h; rfl
/-- a comparison's value is a bool -/
theorem cmp_bl {o : CmpOp} {x y d : D} (e : cmpV o x y = some d) : ∃ b, d = .bl b := by
  cases o <;> simp only [cmpV] at e
  all_goals first
    | (obtain ⟨b, _, rfl⟩ := Option.map_eq_some_iff.mp e; exact ⟨_, rfl⟩)
    | (split at e <;> first | cases e; exact ⟨_, rfl⟩ | cases e | (obtain ⟨b, _, rfl⟩ := Option.map_eq_some_iff.mp e; exact ⟨_, rfl⟩))
theorem val_cmp {o : CmpOp} {x y : D} {b : Bool} {v w : V} {H2 : Hp} {A : Addr → Prop} {Q : VK} (e : cmpV o x y = some (.bl b)) (hx : Rp (gx X f) C H2 A x v) (hy : Rp (gx X f) C H2 A y w) (h : Q (.bl b) H2) : rC X.K o v w H2 Q := by
  cases o <;> simp only [cmpV] at e
  · obtain ⟨b', e1, e2⟩ := Option.map_eq_some_iff.mp e
    obtain ⟨q, r, h1, h2, h3, h4, h5⟩ := D.eq_some e1
    cases e2
    exact ⟨q, r, hx.dp _ _ _ h1, hy.dp _ _ _ h2, h3, h4, by rw [← h5]; exact h⟩
  · obtain ⟨b', e1, e2⟩ := Option.map_eq_some_iff.mp e
    obtain ⟨q, r, h1, h2, h3, h4, h5⟩ := D.eq_some e1
    cases e2
    exact ⟨q, r, hx.dp _ _ _ h1, hy.dp _ _ _ h2, h3, h4, by rw [← h5]; exact h⟩
  · split at e
    · cases e; cases hx; cases hy
      exact ⟨_, _, rfl, rfl, h⟩
    · cases e
  · split at e
    · cases e; cases hx; cases hy
      exact ⟨_, _, rfl, rfl, h⟩
    · cases e
  · split at e
    · cases e; cases hx; cases hy
      exact ⟨_, _, rfl, rfl, h⟩
    · cases e
  · split at e
    · cases e; cases hx; cases hy
      exact ⟨_, _, rfl, rfl, h⟩
    · cases e
  · split at e
    · cases e
      cases hy
      exact ⟨rfl, by rw [non_dec hx]; exact h⟩
    · cases e
  · split at e
    · cases e
      cases hy
      exact ⟨rfl, by rw [non_dec hx]; exact h⟩
    · cases e
  · split at e
    · obtain ⟨b', e1, e2⟩ := Option.map_eq_some_iff.mp e
      obtain ⟨q, r, h1, h2, h3⟩ := inS_some e1
      cases e2
      obtain ⟨a, vs, rfl, k1, k2⟩ := hy
      obtain ⟨s1, s2⟩ := hx.sc h1
      obtain ⟨s3, s4⟩ := k2.scs h2
      subst s1; subst s3
      exact .inl ⟨a, _, rfl, .inr k1, s2, s4, by show Q (.bl (inV v vs)) H2; rw [← h3]; exact h⟩
    · obtain ⟨b', e1, e2⟩ := Option.map_eq_some_iff.mp e
      obtain ⟨q, r, h1, h2, h3⟩ := inS_some e1
      cases e2
      obtain ⟨a, vs, rfl, k1, _, _, k2⟩ := hy
      obtain ⟨s1, s2⟩ := hx.sc h1
      obtain ⟨s3, s4⟩ := k2.scs h2
      subst s1; subst s3
      exact .inl ⟨a, _, rfl, .inl (SqL.of k1), s2, s4, by show Q (.bl (inV v vs)) H2; rw [← h3]; exact h⟩
    · obtain ⟨b', e1, e2⟩ := Option.map_eq_some_iff.mp e
      cases e2
      cases hy
      unfold inT at e1
      split at e1
      · cases e1
        cases hx
        exact .inr (.inl ⟨_, _, rfl, rfl, h⟩)
      · cases e1
    · obtain ⟨j, e1, e2⟩ := Option.map_eq_some_iff.mp e
      obtain ⟨a, vs, rfl, k1, _, _, k3, k2⟩ := hy
      cases e2
      exact .inr (.inr ⟨a, _, j, hx.key e1, rfl, k1, by rw [valV_zip, lkK_some k3]; exact h⟩)
    · cases e
  · split at e
    · obtain ⟨b', e1, e2⟩ := Option.map_eq_some_iff.mp e
      obtain ⟨q, r, h1, h2, h3⟩ := inS_some e1
      cases e2
      obtain ⟨a, vs, rfl, k1, k2⟩ := hy
      obtain ⟨s1, s2⟩ := hx.sc h1
      obtain ⟨s3, s4⟩ := k2.scs h2
      subst s1; subst s3
      exact .inl ⟨a, _, rfl, .inr k1, s2, s4, by show Q (.bl (!inV v vs)) H2; rw [← h3]; exact h⟩
    · obtain ⟨b', e1, e2⟩ := Option.map_eq_some_iff.mp e
      obtain ⟨q, r, h1, h2, h3⟩ := inS_some e1
      cases e2
      obtain ⟨a, vs, rfl, k1, _, _, k2⟩ := hy
      obtain ⟨s1, s2⟩ := hx.sc h1
      obtain ⟨s3, s4⟩ := k2.scs h2
      subst s1; subst s3
      exact .inl ⟨a, _, rfl, .inl (SqL.of k1), s2, s4, by show Q (.bl (!inV v vs)) H2; rw [← h3]; exact h⟩
    · obtain ⟨b', e1, e2⟩ := Option.map_eq_some_iff.mp e
      cases e2
      cases hy
      unfold inT at e1
      split at e1
      · cases e1
        cases hx
        exact .inr (.inl ⟨_, _, rfl, rfl, h⟩)
      · cases e1
    · obtain ⟨j, e1, e2⟩ := Option.map_eq_some_iff.mp e
      obtain ⟨a, vs, rfl, k1, _, _, k3, k2⟩ := hy
      cases e2
      exact .inr (.inr ⟨a, _, j, hx.key e1, rfl, k1, by rw [valV_zip, lkK_some k3]; exact h⟩)
    · cases e
/-- the reading of a comparison, for a value and for a test -/
theorem tE_cmp {o : CmpOp} {a b : Ex} {σ : L2.St} {H : Hp} {Q : VK} (q : tE (gx X f) C wd nw call W (.cmp o a b) σ H Q) : tOp (rC X.K o) (tE (gx X f) C wd nw call W a) (tE (gx X f) C wd nw call W b) σ H Q := by
  refine tE_bin (k := fun x y u2 => lift (cmpV o x y) u2) (fun env u => by rw [evE]) (by rw [Ex.fv]) q fun A x y u2 v w H2 hx hy hE hW h => ?_
  cases e : cmpV o x y with
  | none =>
    rw [e] at h
    exact h.elim
  | some d =>
    rw [e] at h
    obtain ⟨b, rfl⟩ := cmp_bl e
    exact val_cmp e hx hy (h _ _ ⟨hE, hW, rfl, fun _ ed => by cases ed⟩)
theorem pe_cmp' (hr : Room n X.A) {o : CmpOp} {a b : Ex} {x y : Expr} {pos : Pos} (ha : PE X x (tE (gx X f) C wd nw call W a)) (hb : PE X y (tE (gx X f) C wd nw call W b)) (hs : starless y = true) : PE X (.Compare x [o] [y] pos) (tE (gx X f) C wd nw call W (.cmp o a b)) :=
  peImp (pe_cmpR (op_C hr o) ha hb (nobeh hs)) fun σ H Q q => tE_cmp q
/-- a value's reading gives the test's: the value is a bool -/
theorem tT_tE {e : Ex} {σ : L2.St} {H : Hp} {Q : Bool → Hp → Prop} (q : tT (gx X f) C wd nw call W e σ H Q) : tE (gx X f) C wd nw call W e σ H fun x H' => ∃ k, x = .bl k ∧ Q k H' := by
  obtain ⟨env, u, A, rel, w, o⟩ := q
  refine ⟨env, u, A, rel, w, o.imp fun d u1 ⟨b, eb, h⟩ v H' po => ?_⟩
  subst eb
  have r : v = .bl b := po.rp
  exact ⟨b, r, h H' po.ext po.wd⟩
theorem pt_cmp' (hr : Room n X.A) {o : CmpOp} {a b : Ex} {x y : Expr} {pos : Pos} (ha : PE X x (tE (gx X f) C wd nw call W a)) (hb : PE X y (tE (gx X f) C wd nw call W b)) (hs : starless y = true) : PT X (.Compare x [o] [y] pos) (tT (gx X f) C wd nw call W (.cmp o a b)) :=
  ptImp (pt_cmpR (op_C hr o) ha hb (nobeh hs)) fun σ H Q q => tE_cmp (tT_tE q)
theorem tE_ch {o o2 : CmpOp} {a b c : Ex} {σ : L2.St} {H : Hp} {Q : VK} (q : tE (gx X f) C wd nw call W (.ch o o2 a b c) σ H Q) : tChain (rC X.K o) (rC X.K o2) (tE (gx X f) C wd nw call W a) (tE (gx X f) C wd nw call W b) (tE (gx X f) C wd nw call W c) σ H Q := by
  obtain ⟨env, u, A, rel, w, ot⟩ := q
  rw [evE] at ot
  have rel' : RelE (gx X f) C H A env σ (a.fv ++ (b.fv ++ c.fv)) := rel
  refine ⟨env, u, A, rel'.left, w, ot.bind.imp fun x u1 o1 v H1 po => ?_⟩
  refine ⟨env, u1, A, rel'.right.left.ext po.ext, po.wd, (o1.bind.up po.ext).imp fun y u2 o2' w2 H2 ps => ?_⟩
  have E2 := po.ext.trans ps.ext
  have rx := ps.ext.rp po.rp
  have ry := ps.rp.mono (A' := fun a => A a ∨ NL H a) fun a ha => ha.elim .inl fun n => .inr (po.ext.free a n)
  cases e : cmpV o x y with
  | none =>
    simp only [e] at o2'
    exact o2'.elim
  | some d =>
    obtain ⟨k, rfl⟩ := cmp_bl e
    refine val_cmp e rx ry ⟨k, rfl, ?_⟩
    cases k with
    | false =>
      simp only [e] at o2'
      rw [if_neg Bool.false_ne_true]
      exact o2' _ _ ⟨E2, ps.wd, rfl, fun _ ed => by cases ed⟩
    | true =>
      simp only [e] at o2'
      rw [if_pos rfl]
      refine ⟨env, u2, A, (rel'.right.right.ext E2), ps.wd, (o2'.bind.up E2).imp fun z u3 o3 w3 H3 pt => ?_⟩
      cases e2 : cmpV o2 y z with
      | none =>
        rw [e2] at o3
        exact o3.elim
      | some d2 =>
        rw [e2] at o3
        obtain ⟨k2, rfl⟩ := cmp_bl e2
        exact val_cmp e2 (pt.ext.rp ry) (pt.rp.mono fun a ha => ha.elim .inl fun n => .inr (E2.free a n)) (o3 _ _ ⟨E2.trans pt.ext, pt.wd, rfl, fun _ ed => by cases ed⟩)
theorem lastM {o o2 : CmpOp} {b c : Expr} (h : starless c = true) : lastMarks [o, o2] [b, c] = false := by
  show behindInMarks o2 c = false
  exact nobeh h
theorem pe_ch' (hr : Room n X.A) {o o2 : CmpOp} {a b c : Ex} {x y z : Expr} {pos : Pos} (ha : PE X x (tE (gx X f) C wd nw call W a)) (hb : PE X y (tE (gx X f) C wd nw call W b)) (hc : PE X z (tE (gx X f) C wd nw call W c)) (hs : starless z = true) : PE X (.Compare x [o, o2] [y, z] pos) (tE (gx X f) C wd nw call W (.ch o o2 a b c)) :=
  peImp (pe_chain (op_C hr o) (op_C hr o2) ha hb hc (lastM hs)) fun σ H Q q => tE_ch q
theorem pt_ch' (hr : Room n X.A) {o o2 : CmpOp} {a b c : Ex} {x y z : Expr} {pos : Pos} (ha : PE X x (tE (gx X f) C wd nw call W a)) (hb : PE X y (tE (gx X f) C wd nw call W b)) (hc : PE X z (tE (gx X f) C wd nw call W c)) (hs : starless z = true) : PT X (.Compare x [o, o2] [y, z] pos) (tT (gx X f) C wd nw call W (.ch o o2 a b c)) :=
  ptImp (pt_chain (op_C hr o) (op_C hr o2) ha hb hc (lastM hs)) fun σ H Q q => tE_ch (tT_tE q)
end
end Ev

/-! Truth, conditional expressions, subscripts, calls. -/
namespace Ev
open PySem PySem.Spec PyProof.Rows L2 LamX
section
variable {p : PC} {f : Fx} {wd : Words} {nw : Str} {pr : List FD} {n : Nat} {X : Cx} {m : MC} {C : Addr} {W : WX} {call : Nat → List D → Cup → Re D}

theorem bl_of {A : Addr → Prop} {H : Hp} {b : Bool} {v : V} (h : Rp (gx X f) C H A (.bl b) v) : v = .bl b := h

/-! ### not, minus -/
theorem pe_not' {a : Ex} {x : Expr} {pos : Pos} (ha : PE X x (tE (gx X f) C wd nw call W a)) : PE X (.UnaryOp .Not x pos) (tE (gx X f) C wd nw call W (.not a)) := by
  refine peImp (pe_not ha) fun σ H Q q => ?_
  obtain ⟨env, u, A, rel, w, o⟩ := q
  rw [evE] at o
  refine ⟨env, u, A, rel, w, o.bind.imp fun d u1 o1 v H1 po => ?_⟩
  cases d with
  | bl b =>
    have e := bl_of po.rp
    subst e
    exact ⟨b, rfl, o1 _ _ ⟨po.ext, po.wd, rfl, fun _ ed => by cases ed⟩⟩
  | _ => exact o1.elim
theorem pe_neg' {a : Ex} {x : Expr} {pos : Pos} (ha : PE X x (tE (gx X f) C wd nw call W a)) : PE X (.UnaryOp .USub x pos) (tE (gx X f) C wd nw call W (.neg a)) := by
  refine peImp (pe_un un_neg ha) fun σ H Q q => ?_
  obtain ⟨env, u, A, rel, w, o⟩ := q
  rw [evE] at o
  refine ⟨env, u, A, rel, w, o.bind.imp fun d u1 o1 v H1 po => ?_⟩
  cases d with
  | int b =>
    have e : v = .int b := po.rp
    subst e
    exact ⟨b, rfl, o1 _ _ ⟨po.ext, po.wd, rfl, fun _ ed => by cases ed⟩⟩
  | _ => exact o1.elim
theorem pt_not' {a : Ex} {x : Expr} {pos : Pos} (ha : PT X x (tT (gx X f) C wd nw call W a)) : PT X (.UnaryOp .Not x pos) (tT (gx X f) C wd nw call W (.not a)) := by
  refine ptImp (pt_not ha) fun σ H Q q => ?_
  obtain ⟨env, u, A, rel, w, o⟩ := q
  rw [evE] at o
  refine ⟨env, u, A, rel, w, o.bind.imp fun d u1 o1 => ?_⟩
  cases d with
  | bl b =>
    obtain ⟨b', e, h⟩ := o1
    cases e
    exact ⟨b, rfl, h⟩
  | _ => exact o1.elim

/-! ### and, or -/
def tTB (g : G) (C : Addr) (wd : Words) (nw : Str) (call : Nat → List D → Cup → Re D) (W : WX) (o : BoolOp) (es : List Ex) : TT := fun σ H Q => ∃ env u A, RelE g C H A env σ (Ex.fvs es) ∧ Wd g C H u ∧ Out g C W σ H (evB wd nw call o es env u) fun d u' => ∃ b, d = .bl b ∧ ∀ H', Ext C H H' → Wd g C H' u' → Q b H'
theorem pe_and1' {a : Ex} {x : Expr} {pos : Pos} (ha : PE X x (tE (gx X f) C wd nw call W a)) : PE X (.BoolOp .And [x] pos) (tB (gx X f) C wd nw call W .And [a]) := by
  refine peImp (pe_one ha) fun σ H Q q => ?_
  obtain ⟨env, u, A, rel, w, o⟩ := q
  rw [evB] at o
  refine ⟨env, u, A, rel.left, w, o.bind.imp fun d u1 o1 v H1 po => ?_⟩
  cases d with
  | bl b =>
    have e := bl_of po.rp
    subst e
    cases b with
    | true =>
      simp only [evB] at o1
      exact o1 _ _ ⟨po.ext, po.wd, rfl, fun z => by cases z⟩
    | false => exact o1 _ _ ⟨po.ext, po.wd, rfl, fun z => by cases z⟩
  | _ => exact o1.elim
theorem pe_or1' {a : Ex} {x : Expr} {pos : Pos} (ha : PE X x (tE (gx X f) C wd nw call W a)) : PE X (.BoolOp .Or [x] pos) (tB (gx X f) C wd nw call W .Or [a]) := by
  refine peImp (pe_one ha) fun σ H Q q => ?_
  obtain ⟨env, u, A, rel, w, o⟩ := q
  rw [evB] at o
  refine ⟨env, u, A, rel.left, w, o.bind.imp fun d u1 o1 v H1 po => ?_⟩
  cases d with
  | bl b =>
    have e := bl_of po.rp
    subst e
    cases b with
    | true => exact o1 _ _ ⟨po.ext, po.wd, rfl, fun z => by cases z⟩
    | false =>
      simp only [evB] at o1
      exact o1 _ _ ⟨po.ext, po.wd, rfl, fun z => by cases z⟩
  | _ => exact o1.elim
theorem pe_and' {a : Ex} {es : List Ex} {x y : Expr} {ys : List Expr} {pos : Pos} (ha : PE X x (tE (gx X f) C wd nw call W a)) (hb : PE X (.BoolOp .And (y :: ys) pos) (tB (gx X f) C wd nw call W .And es)) : PE X (.BoolOp .And (x :: y :: ys) pos) (tB (gx X f) C wd nw call W .And (a :: es)) := by
  refine peImp (pe_and ha hb) fun σ H Q q => ?_
  obtain ⟨env, u, A, rel, w, o⟩ := q
  rw [evB] at o
  have rel' : RelE (gx X f) C H A env σ (a.fv ++ Ex.fvs es) := rel
  refine ⟨env, u, A, rel'.left, w, o.bind.imp fun d u1 o1 v H1 po => ?_⟩
  cases d with
  | bl b =>
    have e := bl_of po.rp
    subst e
    refine ⟨b, rfl, ?_⟩
    cases b with
    | true =>
      rw [if_pos rfl]
      exact ⟨env, u1, A, rel'.right.ext po.ext, po.wd, (Out.up po.ext o1).imp fun d u2 o2 v2 H2 ps => o2 _ _ (Posts.toPost (A0 := A) po.ext ps)⟩
    | false =>
      rw [if_neg Bool.false_ne_true]
      exact o1 _ _ ⟨po.ext, po.wd, rfl, fun z => by cases z⟩
  | _ => exact o1.elim
theorem pe_or' {a : Ex} {es : List Ex} {x y : Expr} {ys : List Expr} {pos : Pos} (ha : PE X x (tE (gx X f) C wd nw call W a)) (hb : PE X (.BoolOp .Or (y :: ys) pos) (tB (gx X f) C wd nw call W .Or es)) : PE X (.BoolOp .Or (x :: y :: ys) pos) (tB (gx X f) C wd nw call W .Or (a :: es)) := by
  refine peImp (pe_or ha hb) fun σ H Q q => ?_
  obtain ⟨env, u, A, rel, w, o⟩ := q
  rw [evB] at o
  have rel' : RelE (gx X f) C H A env σ (a.fv ++ Ex.fvs es) := rel
  refine ⟨env, u, A, rel'.left, w, o.bind.imp fun d u1 o1 v H1 po => ?_⟩
  cases d with
  | bl b =>
    have e := bl_of po.rp
    subst e
    refine ⟨b, rfl, ?_⟩
    cases b with
    | true =>
      rw [if_pos rfl]
      exact o1 _ _ ⟨po.ext, po.wd, rfl, fun z => by cases z⟩
    | false =>
      rw [if_neg Bool.false_ne_true]
      exact ⟨env, u1, A, rel'.right.ext po.ext, po.wd, (Out.up po.ext o1).imp fun d u2 o2 v2 H2 ps => o2 _ _ (Posts.toPost (A0 := A) po.ext ps)⟩
  | _ => exact o1.elim
theorem pw_and1' {a : Ex} {x : Expr} {pos : Pos} (ha : PT X x (tT (gx X f) C wd nw call W a)) : PW X (.BoolOp .And [x] pos) (tTB (gx X f) C wd nw call W .And [a]) := by
  refine ⟨fun wh pins s σ H Q I q => (pw_and1 ha).run wh pins s σ H Q I ?_⟩
  obtain ⟨env, u, A, rel, w, o⟩ := q
  rw [evB] at o
  refine ⟨env, u, A, rel.left, w, o.bind.imp fun d u1 o1 => ?_⟩
  cases d with
  | bl b => cases b with
    | true => (simp only [evB] at o1; exact o1)
    | false => exact o1
  | _ => exact o1.elim
theorem pw_or1' {a : Ex} {x : Expr} {pos : Pos} (ha : PT X x (tT (gx X f) C wd nw call W a)) : PW X (.BoolOp .Or [x] pos) (tTB (gx X f) C wd nw call W .Or [a]) := by
  refine ⟨fun wh pins s σ H Q I q => (pw_or1 ha).run wh pins s σ H Q I ?_⟩
  obtain ⟨env, u, A, rel, w, o⟩ := q
  rw [evB] at o
  refine ⟨env, u, A, rel.left, w, o.bind.imp fun d u1 o1 => ?_⟩
  cases d with
  | bl b => cases b with
    | true => exact o1
    | false => (simp only [evB] at o1; exact o1)
  | _ => exact o1.elim
theorem pw_and' {a : Ex} {es : List Ex} {x y : Expr} {ys : List Expr} {pos : Pos} (ha : PT X x (tT (gx X f) C wd nw call W a)) (hb : PW X (.BoolOp .And (y :: ys) pos) (tTB (gx X f) C wd nw call W .And es)) : PW X (.BoolOp .And (x :: y :: ys) pos) (tTB (gx X f) C wd nw call W .And (a :: es)) := by
  refine ⟨fun wh pins s σ H Q I q => (pw_and ha hb).run wh pins s σ H Q I ?_⟩
  obtain ⟨env, u, A, rel, w, o⟩ := q
  rw [evB] at o
  have rel' : RelE (gx X f) C H A env σ (a.fv ++ Ex.fvs es) := rel
  refine ⟨env, u, A, rel'.left, w, o.bind.imp fun d u1 o1 => ?_⟩
  cases d with
  | bl b =>
    refine ⟨b, rfl, fun H1 e1 w1 => ?_⟩
    cases b with
    | true =>
      rw [if_pos rfl]
      exact ⟨env, u1, A, rel'.right.ext e1, w1, (Out.up e1 o1).imp fun d u2 ⟨b2, e2, o2⟩ => ⟨b2, e2, fun H' x' w' => o2 H' (e1.trans x') w'⟩⟩
    | false =>
      rw [if_neg Bool.false_ne_true]
      obtain ⟨b2, e2, o2⟩ := o1
      cases e2
      exact o2 H1 e1 w1
  | _ => exact o1.elim
theorem pw_or' {a : Ex} {es : List Ex} {x y : Expr} {ys : List Expr} {pos : Pos} (ha : PT X x (tT (gx X f) C wd nw call W a)) (hb : PW X (.BoolOp .Or (y :: ys) pos) (tTB (gx X f) C wd nw call W .Or es)) : PW X (.BoolOp .Or (x :: y :: ys) pos) (tTB (gx X f) C wd nw call W .Or (a :: es)) := by
  refine ⟨fun wh pins s σ H Q I q => (pw_or ha hb).run wh pins s σ H Q I ?_⟩
  obtain ⟨env, u, A, rel, w, o⟩ := q
  rw [evB] at o
  have rel' : RelE (gx X f) C H A env σ (a.fv ++ Ex.fvs es) := rel
  refine ⟨env, u, A, rel'.left, w, o.bind.imp fun d u1 o1 => ?_⟩
  cases d with
  | bl b =>
    refine ⟨b, rfl, fun H1 e1 w1 => ?_⟩
    cases b with
    | true =>
      rw [if_pos rfl]
      obtain ⟨b2, e2, o2⟩ := o1
      cases e2
      exact o2 H1 e1 w1
    | false =>
      rw [if_neg Bool.false_ne_true]
      exact ⟨env, u1, A, rel'.right.ext e1, w1, (Out.up e1 o1).imp fun d u2 ⟨b2, e2, o2⟩ => ⟨b2, e2, fun H' x' w' => o2 H' (e1.trans x') w'⟩⟩
  | _ => exact o1.elim
/-- whole lists -/
theorem pe_bops {o : BoolOp} {pos : Pos} : ∀ {es : List Ex} {xs : List Expr}, xs ≠ [] → Paired (fun e x => PE X x (tE (gx X f) C wd nw call W e)) es xs → PE X (.BoolOp o xs pos) (tB (gx X f) C wd nw call W o es)
  | _, _, h, .nil => absurd rfl h
  | _, _, _, .cons h .nil => by
    cases o
    · exact pe_and1' h
    · exact pe_or1' h
  | _, _, _, .cons h (.cons h2 r) => by
    have ih := pe_bops (o := o) (pos := pos) (by simp) (Paired.cons h2 r)
    cases o
    · exact pe_and' h ih
    · exact pe_or' h ih
theorem pw_bops {o : BoolOp} {pos : Pos} : ∀ {es : List Ex} {xs : List Expr}, xs ≠ [] → Paired (fun e x => PT X x (tT (gx X f) C wd nw call W e)) es xs → PW X (.BoolOp o xs pos) (tTB (gx X f) C wd nw call W o es)
  | _, _, h, .nil => absurd rfl h
  | _, _, _, .cons h .nil => by
    cases o
    · exact pw_and1' h
    · exact pw_or1' h
  | _, _, _, .cons h (.cons h2 r) => by
    have ih := pw_bops (o := o) (pos := pos) (by simp) (Paired.cons h2 r)
    cases o
    · exact pw_and' h ih
    · exact pw_or' h ih
theorem pe_bop' {o : BoolOp} {pos : Pos} {es : List Ex} {xs : List Expr} (h : xs ≠ []) (hp : Paired (fun e x => PE X x (tE (gx X f) C wd nw call W e)) es xs) : PE X (.BoolOp o xs pos) (tE (gx X f) C wd nw call W (.bop o es)) :=
  peImp (pe_bops h hp) fun σ H Q q => by
    obtain ⟨env, u, A, rel, w, o⟩ := q
    rw [evE] at o
    exact ⟨env, u, A, rel, w, o⟩
theorem pt_bop' {o : BoolOp} {pos : Pos} {es : List Ex} {xs : List Expr} (h : xs ≠ []) (hp : Paired (fun e x => PT X x (tT (gx X f) C wd nw call W e)) es xs) : PT X (.BoolOp o xs pos) (tT (gx X f) C wd nw call W (.bop o es)) :=
  ptImp (pw_bops h hp).pt fun σ H Q q => by
    obtain ⟨env, u, A, rel, w, o⟩ := q
    rw [evE] at o
    exact ⟨env, u, A, rel, w, o⟩

/-! ### a if c else b -/
theorem pe_ite' {c a b : Ex} {z x y : Expr} {pos : Pos} (hc : PT X z (tT (gx X f) C wd nw call W c)) (ha : PE X x (tE (gx X f) C wd nw call W a)) (hb : PE X y (tE (gx X f) C wd nw call W b)) : PE X (.IfExp z x y pos) (tE (gx X f) C wd nw call W (.ite c a b)) := by
  refine peImp (pe_ifExp hc ha hb) fun σ H Q q => ?_
  obtain ⟨env, u, A, rel, w, o⟩ := q
  rw [evE] at o
  have rel' : RelE (gx X f) C H A env σ (c.fv ++ (a.fv ++ b.fv)) := rel
  refine ⟨env, u, A, rel'.left, w, o.bind.imp fun d u1 o1 => ?_⟩
  cases d with
  | bl k =>
    refine ⟨k, rfl, fun H1 e1 w1 => ?_⟩
    cases k with
    | true =>
      rw [if_pos rfl]
      exact ⟨env, u1, A, rel'.right.left.ext e1, w1, (Out.up e1 o1).imp fun d u2 o2 v H' po => o2 _ _ ⟨e1.trans po.ext, po.wd, po.rp.mono fun a ha => ha.elim .inl fun n => .inr (e1.free a n), fun z => by cases z⟩⟩
    | false =>
      rw [if_neg Bool.false_ne_true]
      exact ⟨env, u1, A, rel'.right.right.ext e1, w1, (Out.up e1 o1).imp fun d u2 o2 v H' po => o2 _ _ ⟨e1.trans po.ext, po.wd, po.rp.mono fun a ha => ha.elim .inl fun n => .inr (e1.free a n), fun z => by cases z⟩⟩
  | _ => exact o1.elim
theorem pt_ifExp' {c a b : Expr} {pos : Pos} {tc ta tb : TT} (hc : PT X c tc) (ha : PT X a ta) (hb : PT X b tb) : PT X (.IfExp c a b pos) (fun σ H Q => tc σ H fun k H1 => if k = true then ta σ H1 Q else tb σ H1 Q) := by
  refine ⟨fun pins s σ H Q I h => ?_⟩
  refine isTrue_IfExp (thn (hc.run pins s σ H _ I h) fun d s1 ⟨H1, I1, q1⟩ => ?_)
  cases d with
  | true => exact ha.run pins s1 σ H1 Q I1 q1
  | false => exact hb.run pins s1 σ H1 Q I1 q1
theorem pt_ite' {c a b : Ex} {z x y : Expr} {pos : Pos} (hc : PT X z (tT (gx X f) C wd nw call W c)) (ha : PT X x (tT (gx X f) C wd nw call W a)) (hb : PT X y (tT (gx X f) C wd nw call W b)) : PT X (.IfExp z x y pos) (tT (gx X f) C wd nw call W (.ite c a b)) := by
  refine ptImp (pt_ifExp' hc ha hb) fun σ H Q q => ?_
  obtain ⟨env, u, A, rel, w, o⟩ := q
  rw [evE] at o
  have rel' : RelE (gx X f) C H A env σ (c.fv ++ (a.fv ++ b.fv)) := rel
  refine ⟨env, u, A, rel'.left, w, o.bind.imp fun d u1 o1 => ?_⟩
  cases d with
  | bl k =>
    refine ⟨k, rfl, fun H1 e1 w1 => ?_⟩
    cases k with
    | true =>
      rw [if_pos rfl]
      exact ⟨env, u1, A, rel'.right.left.ext e1, w1, (Out.up e1 o1).imp fun d u2 ⟨b2, e2, o2⟩ => ⟨b2, e2, fun H' x' w' => o2 H' (e1.trans x') w'⟩⟩
    | false =>
      rw [if_neg Bool.false_ne_true]
      exact ⟨env, u1, A, rel'.right.right.ext e1, w1, (Out.up e1 o1).imp fun d u2 ⟨b2, e2, o2⟩ => ⟨b2, e2, fun H' x' w' => o2 H' (e1.trans x') w'⟩⟩
  | _ => exact o1.elim

/-! ### subscripts -/
theorem Rps.at {H : Hp} {A : Addr → Prop} {ds : List D} {vs : List V} {i : Int} {d : D} (h : Rps (gx X f) C H A ds vs) (e : atI ds i = some d) : ∃ v, atI vs i = some v ∧ Rp (gx X f) C H A d v := by
  unfold atI at e ⊢
  rw [← h.length]
  cases k : ixN ds.length i with
  | none =>
    rw [k] at e
    cases e
  | some j =>
    rw [k] at e
    exact h.get e
theorem ix_dK (hu : X.A.units + 1 < cLine) : IxR X (fun x y H Q => ∃ (a : Addr) (kvs : List (L2.Key × V)) (k : L2.Key) (v : V), x = .ref a ∧ y = kV k ∧ H a = some (.dK kvs) ∧ valV kvs k = some v ∧ Q v H) := by
  intro value slice pins s σ H x y v u Q I rx ry h hs
  obtain ⟨a, kvs, k, z, rfl, rfl, e, l, q⟩ := h
  obtain rfl : v = Value.ref a := rx
  have g : DGet H a (kV k) (some z) := by
    rw [← l]
    exact DGet.k e
  exact tail_any (dict_typeIs I g) PySem.F.slot_dict_getitem.lookup (d_getItem hu I g ry fun w' s3 I3 rw' => ⟨z, H, I3, rw', q⟩) hs
theorem Rps.lkK {H : Hp} {A : Addr → Prop} {j : L2.Key} {d : D} : ∀ {ks : List L2.Key} {ds : List D} {vs : List V}, Rps (gx X f) C H A ds vs → Ev.lkK ks ds j = some d → ∃ v, Ev.lkK ks vs j = some v ∧ Rp (gx X f) C H A d v
  | [], _, _, _, e => by simp [Ev.lkK] at e
  | _ :: _, [], _, _, e => by simp [Ev.lkK] at e
  | k :: ks, x :: xs, _, h, e => by
    obtain ⟨v, r, rfl, h1, h2⟩ := h
    rw [Ev.lkK] at e ⊢
    by_cases q : k = j
    · rw [if_pos q] at e ⊢
      cases e
      exact ⟨v, rfl, h1⟩
    · rw [if_neg q] at e ⊢
      exact Rps.lkK h2 e
theorem pe_ix' (hu : X.A.units + 1 < cLine) {a b : Ex} {x y : Expr} {pos : Pos} (ha : PE X x (tE (gx X f) C wd nw call W a)) (hb : PE X y (tE (gx X f) C wd nw call W b)) (hs : starless y = true) : PE X (.Subscript x y pos) (tE (gx X f) C wd nw call W (.ix a b)) := by
  refine peImp (pe_ix (ix_seq.or (ix_dK hu)) ha hb (plainIx_of hs)) fun σ H Q q => tE_bin (k := ixR) (fun env u => by rw [evE]) (by rw [Ex.fv]) q fun A x y u2 v w H2 hx hy hE hW h => ?_
  have fin : ∀ {d : D} {z : V}, Out (gx X f) C W σ H2 (.ok d u2 : Re D) (fun d u' => ∀ v' H', Post (gx X f) C H A (Ex.ix a b).fresh d u' v' H' → Q v' H') → Rp (gx X f) C H2 (fun a => A a ∨ NL H a) d z → Q z H2 := fun {d z} hh r => hh _ _ ⟨hE, hW, r, fun z => by cases z⟩
  cases x with
  | cup =>
    have h : Out (gx X f) C W σ H2 (lift (ixC u2 y) u2 : Re D) (fun d u' => ∀ v' H', Post (gx X f) C H A (Ex.ix a b).fresh d u' v' H' → Q v' H') := h
    cases hx
    unfold ixC at h
    cases y with
    | int i =>
      cases hy
      have rc : Rps (gx X f) C H2 (fun a => A a ∨ NL H a) [.int u2.1, .int u2.2] [.int u2.1, .int u2.2] := ⟨_, _, rfl, rfl, _, _, rfl, rfl, rfl⟩
      cases e : atI [D.int u2.1, D.int u2.2] i with
      | none =>
        simp only [e] at h
        exact h.elim
      | some d =>
        simp only [e] at h
        obtain ⟨z, e1, e2⟩ := Rps.at rc e
        exact .inl (.inl ⟨_, _, _, z, rfl, rfl, SqL.of hW.cup, e1, fin h e2⟩)
    | _ => exact h.elim
  | tup ds =>
    cases y with
    | int i =>
      cases hy
      have h : Out (gx X f) C W σ H2 (lift (atI ds i) u2 : Re D) (fun d u' => ∀ v' H', Post (gx X f) C H A (Ex.ix a b).fresh d u' v' H' → Q v' H') := h
      cases e : atI ds i with
      | none =>
        rw [e] at h
        exact h.elim
      | some d =>
        rw [e] at h
        obtain ⟨p', vs, rfl, h1, h2⟩ := hx
        obtain ⟨z, e1, e2⟩ := Rps.at h2 e
        exact .inl (.inr (.inl ⟨p', vs, _, z, rfl, rfl, h1, e1, fin h e2⟩))
    | _ => exact h.elim
  | lst ds =>
    cases y with
    | int i =>
      cases hy
      have h : Out (gx X f) C W σ H2 (lift (atI ds i) u2 : Re D) (fun d u' => ∀ v' H', Post (gx X f) C H A (Ex.ix a b).fresh d u' v' H' → Q v' H') := h
      cases e : atI ds i with
      | none =>
        rw [e] at h
        exact h.elim
      | some d =>
        rw [e] at h
        obtain ⟨p', vs, rfl, h1, _, _, h2⟩ := hx
        obtain ⟨z, e1, e2⟩ := Rps.at h2 e
        exact .inl (.inl ⟨p', vs, _, z, rfl, rfl, SqL.of h1, e1, fin h e2⟩)
    | _ => exact h.elim
  | str z =>
    cases y with
    | int i =>
      cases hy
      cases hx
      have h : Out (gx X f) C W σ H2 (lift (if z.length ≤ big then match L2.atI z.cps.toList i with | some c => some (D.str ⟨#[c]⟩) | none => none else none) u2 : Re D) (fun d u' => ∀ v' H', Post (gx X f) C H A (Ex.ix a b).fresh d u' v' H' → Q v' H') := h
      split at h
      · rename_i hz
        cases e : atI z.cps.toList i with
        | none =>
          simp only [e] at h
          exact h.elim
        | some c =>
          simp only [e] at h
          exact .inl (.inr (.inr ⟨z, i, c, rfl, rfl, Nat.le_trans hz big_le, e, fin h rfl⟩))
      · exact h.elim
    | _ => exact h.elim
  | dic ks ds =>
    have h : Out (gx X f) C W σ H2 (lift (match y.key with | some j => Ev.lkK ks ds j | none => none) u2 : Re D) (fun d u' => ∀ v' H', Post (gx X f) C H A (Ex.ix a b).fresh d u' v' H' → Q v' H') := h
    cases ek : y.key with
    | none =>
      rw [ek] at h
      exact h.elim
    | some j =>
      rw [ek] at h
      cases e : Ev.lkK ks ds j with
      | none =>
        simp only [e] at h
        exact h.elim
      | some d =>
        simp only [e] at h
        obtain ⟨p', vs, rfl, h1, _, _, h3, h2⟩ := hx
        obtain ⟨z, e1, e2⟩ := Rps.lkK h2 e
        exact .inr ⟨p', _, j, z, rfl, hy.key ek, h1, by rw [valV_zip]; exact e1, fin h e2⟩
  | _ => cases y <;> exact h.elim
end
end Ev

/-! Calls, built-in functions, isinstance; targets; what is walked. -/
namespace Ev
open PySem PySem.Spec PyProof.Rows L2 LamX
section
variable {p : PC} {f : Fx} {wd : Words} {nw : Str} {pr : List FD} {n : Nat} {X : Cx} {m : MC} {C : Addr} {W : WX} {call : Nat → List D → Cup → Re D}

/-! ### calls of defs -/
theorem pe_callS0 {CX : CXT} {k : Nat} {fo : Addr} {fd : FuncData} {ps : List Str} {sp : Sp} {E : L2.St → XK} {x : Str} {q pos : Pos} (F : FnOk X.prog X.w X.K X.mg X.base CX k fo fd ps sp) (hr : Room k X.A) (hg : Gl X x) (hm : X.mg x = some (.ref fo)) (hk : PySem.W.keepIn X.K (.ref fo) = true) (hb : Binds X.K fd ps []) (hx : ∀ σ, PassesAt CX X σ (E σ))
    (hdb : (x == ("__debug__" : Str)) = false) : PE X (.Call (.Name x q) [] [] pos) (tCallS sp E tNil) := by
  refine ⟨fun pins s σ H Q I h => ?_⟩
  refine wpAny_Call_Name_kw (ld_glob I hg hm ?_ hdb)
  exact PySem.W.callWith_K0 I.kIn hk (run_fnS (us := []) F hr hb (hx σ) I .nil h)
/-- what a call of the k-th def asks -/
theorem spF_of {k : Nat} {σ : L2.St} {H H1 : Hp} {A : Addr → Prop} {ds : List D} {u : Cup} {vs : List V} {Q : VK} (po : Posts (gx X f) C H A ds u vs H1)
    (o : Out (gx X f) C W σ H1 (run wd nw pr n k ds u) fun d u' => ∀ v H', Post (gx X f) C H A false d u' v H' → Q v H') : SpF (gx X f) (run wd nw pr n k) vs H1 Q (WE W σ) := by
  refine ⟨C, fun a => A a ∨ NL H a, ds, u, po.rp, po.wd, ?_⟩
  cases e : run wd nw pr n k ds u with
  | ok d u' =>
    rw [e] at o
    exact fun v H' x w r => o v H' ⟨po.ext.trans x, w, r.mono fun a ha => ha.elim id fun z => .inr (po.ext.free a z), fun z => by cases z⟩
  | exc j u' =>
    rw [e] at o
    exact fun H' x w => o H' x w
  | bad =>
    rw [e] at o
    exact o
theorem pe_call' (h : XOk p f wd nw pr n X m) (hh : m.hot = false) (tk : L2N.Takes X W) {k : Nat} {es : List Ex} {x : Str} {xs : List Expr} {q pos : Pos} (hf : p.fn[k]? = some x) (hg : Ev.glb m.sc x = true) (ho : okN x = true) (ha : PA X xs (tL (gx X f) C wd nw (run wd nw pr n) W es)) (hl : mL p m es xs = true) : PE X (.Call (.Name x q) xs [] pos) (tE (gx X f) C wd nw (run wd nw pr n) W (.call k es)) := by
  obtain ⟨h1, h2, fd, ps, h3, F⟩ := h.fn k x hf
  have hdb := (okN_of ho).1
  have fin : ∀ {t : TA}, (∀ σ H Q, tL (gx X f) C wd nw (run wd nw pr n) W es σ H Q → t σ H Q) → ∀ σ H Q, tE (gx X f) C wd nw (run wd nw pr n) W (.call k es) σ H Q → tCallS (SpF (gx X f) (run wd nw pr n k)) (WE W) t σ H Q := fun {t} ht σ H Q q => by
    obtain ⟨env, u, A, rel, w, o⟩ := q
    rw [evE] at o
    refine ht σ H _ ⟨env, u, A, rel, w, o.bind.imp fun ds u1 o1 vs H1 po => ?_⟩
    exact spF_of po (o1.up po.ext)
  cases xs with
  | nil =>
    cases es with
    | cons _ _ => cases hl
    | nil =>
      refine peImp (pe_callS0 F (h.room hh) (h.glb hg) h1 h2 h3 (fun σ => L2N.passAt tk σ) hdb) (fin fun σ H Q q => ?_)
      obtain ⟨env, u, A, rel, w, o⟩ := q
      simp only [evL] at o
      exact o [] H ⟨w.refl, w, rfl⟩
  | cons y ys =>
    cases es with
    | nil => cases hl
    | cons e es =>
      simp only [mL, Bool.and_eq_true] at hl
      exact peImp (pe_callS F (h.room hh) (h.glb hg) h1 h2 h3 (fun σ => L2N.passAt tk σ) ha hdb (star_of (mE_starless hl.1.2)) (mL_stars hl.2)) (fin fun _ _ _ q => q)
/-- a name of one's own that holds a def is called -/
theorem pe_callv' (h : XOk p f wd nw pr n X m) (hh : m.hot = false) (tk : L2N.Takes X W) {i : Nat} {es : List Ex} {x : Str} {xs : List Expr} {q pos : Pos} (hN : m.N[i]? = some x) (hv : Ev.vis m.sc x = true) (ho : okN x = true) (ha : PA X xs (tL (gx X f) C wd nw (run wd nw pr n) W es)) (hl : mL p m es xs = true) (hne : xs ≠ []) : PE X (.Call (.Name x q) xs [] pos) (tE (gx X f) C wd nw (run wd nw pr n) W (.callv i es)) := by
  refine ⟨fun pins s σ H Q I hq => ?_⟩
  obtain ⟨env, u, A, rel, w, o⟩ := hq
  have rel' : RelE (gx X f) C H A env σ (i :: Ex.fvs es) := rel
  obtain ⟨o1, o2, o3⟩ := okN_of ho
  rw [evE] at o
  split at o
  · rename_i b k ed
    obtain ⟨v, e1, e2⟩ := rel' i (by simp) b (.fn k) ed
    obtain ⟨e2a, e2'⟩ := e2
    subst e2'
    obtain ⟨y, hk⟩ := (h.kn k).mp e2a
    have _ := 0
    · obtain ⟨h1, h2, fd, ps, h3, F⟩ := h.fn k y hk
      refine wpAny_Call_Name_kw (thn ((pe_var (pos := q) (i := i) (by rw [h.N]; exact hN) (h.vis hv) o1 o2).run pins s σ H (fun v H1 => v = .ref (f.fa k) ∧ H1 = H) I ⟨.ref (f.fa k), e1, rfl, rfl⟩) fun fv s1 ⟨v', H1, I1, r1, ev, eH⟩ => ?_)
      subst ev
      rw [eH] at I1
      cases r1
      cases xs with
      | nil => exact absurd rfl hne
      | cons y ys =>
        cases es with
        | nil => cases hl
        | cons e es =>
          have hl' := hl
          simp only [mL, Bool.and_eq_true] at hl'
          refine PySem.W.callWith_K (h₀ := X.base) I1.ok.mod.kin h2 (thn (ha.run pos pins s1 σ H (fun vs H2 => SpF (gx X f) (run wd nw pr n k) vs H2 Q (WE W σ)) I1 ⟨env, u, A, rel'.sub (fun _ hi => List.mem_cons_of_mem _ hi), w, o.bind.imp fun ds u1 o1 vs H2 po => spF_of po (o1.up po.ext)⟩) fun us s2 ⟨vs, H2, I2, r, q'⟩ => ⟨I2.kIn, ?_⟩) (star_of (mE_starless hl'.1.2)) (mL_stars hl'.2)
          exact run_fnS F (h.room hh) h3 (L2N.passAt tk σ) I2 r q'
  · exact o.elim
end
end Ev

/-! list(enumerate(t)), t a tuple: the heap's level. -/
namespace EvEnum
open PySem PySem.Spec PyProof.Rows
open Sem (wp)
section
variable {prog : Program} {w : World} {A : Around} {E : Value → Shared → Prop} {s : Shared}

/-- enumerate(v): its two cells -/
theorem meets_enum1 {v : Value} {o : Obj} {Hc : Heap → Prop} (B : Begins v o Hc) :
    Meets (Builtin.«enumerate.__new__» ⟨[.type "enumerate", v], []⟩) (fun _ R z => Hc z.heap ∧
      R (.ok (.ret (.ref (z.heap.push o).objs.size))) { z with heap := (z.heap.push o).push { cls := .type "enumerate", data := .fields #[.none, .bool false, .ref z.heap.objs.size, rawInt 0, .none, .none] } }) :=
  .of_wp fun pr wo Ar R z hz => by
    obtain ⟨hp, gs, dr, tks, osx⟩ := z
    obtain ⟨hc, hr⟩ := hz
    have hsub := sub_enumerate
    have itB : ∀ {Ar' : Around} {Ex : Value → Shared → Prop} {Qx : Value → Shared → Prop}, Qx (.ref hp.objs.size) ⟨hp.push o, gs, dr, tks, osx⟩ → wpAny (model pr wo) Ar' (pyIter v) Qx Ex ⟨hp, gs, dr, tks, osx⟩ :=
      fun q => B.iter pr wo _ _ ⟨hp, gs, dr, tks, osx⟩ _ hc q
    wp_walk using itB
    refine wpAny_stack_any fun st => wpAny_pure ?_
    split
    · rename_i c _ _ _ _ _
      cases (c == Value.type "enumerate")
      · wp_walk using itB
        exact ⟨_, rfl, hr⟩
      · wp_walk using itB
        exact ⟨_, rfl, hr⟩
    · wp_walk using itB
      exact ⟨_, rfl, hr⟩
theorem call_enum1 {v : Value} {o : Obj} {Hc : Heap → Prop} {Q : Value → Shared → Prop} (B : Begins v o Hc) (hc : Hc s.heap)
    (k : ∀ h1, IsEnum h1 (s.heap.objs.size + 1) s.heap.objs.size 0 .none → h1.get? s.heap.objs.size = some o → h1.objs.size = s.heap.objs.size + 2 →
      (∀ b u, s.heap.get? b = some u → h1.get? b = some u) → Q (.ref (s.heap.objs.size + 1)) { s with heap := h1 }) :
    wpAny (model prog w) A (call (.type "enumerate") [v]) Q E s := by
  refine callType_new F.called_enumerate (by decide) (F.typeCall_enumerate_1 _) (F.newCall_enumerate_1 _) (fun obj => F.args_object_init_2 obj _) F.entry_enumerate_new (meets_enum1 B) ⟨hc, ?_⟩
  have sz : (s.heap.push o).objs.size = s.heap.objs.size + 1 := Heap.size_push ..
  show _ ∧ _
  rw [sz]
  have en : IsEnum ((s.heap.push o).push { cls := .type "enumerate", data := .fields #[.none, .bool false, .ref s.heap.objs.size, rawInt 0, .none, .none] }) (s.heap.objs.size + 1) s.heap.objs.size 0 .none := by
    have q := Heap.get?_push_size (s.heap.push o) (o := { cls := .type "enumerate", data := .fields #[.none, .bool false, .ref s.heap.objs.size, rawInt 0, .none, .none] }) rfl
    rw [sz] at q
    exact q
  exact ⟨⟨_, en, rfl⟩, k _ en (Heap.get?_push_of_some _ (Heap.get?_push_size _ B.free)) (by rw [Heap.size_push, sz]) fun b u x => Heap.get?_push_of_some _ (Heap.get?_push_of_some _ x)⟩

/-- an item while the tuple that was given out last is still held -/
theorem next_held {e it T : Addr} {fp : List Addr} {n i : Nat} {P : Nat → Value → Prop} {St : Nat → Heap → Prop} {old : Value} {f : Bool} {oT : Obj} {Q : Value → Shared → Prop}
    (D : Draws prog w A it fp n P St) (he : IsEnumHeld s.heap e it i old T f) (hT : s.heap.get? T = some oT) (nTe : T ≠ e) (nTi : T ≠ it) (hst : St i s.heap) (hlt : i < n) (hne : e ≠ it) (hef : e ∉ fp)
    (k : ∀ x h1 tk, P i x → IsEnumHeld h1 e it ((i : Int) + 1) old T true → St (i + 1) h1 →
      h1.get? s.heap.objs.size = some { cls := .type "tuple", data := .seq #[.int i tk, x] } → h1.objs.size = s.heap.objs.size + 1 →
      (∀ b u, b ≠ e → b ≠ it → s.heap.get? b = some u → h1.get? b = some u) → Q (.ref s.heap.objs.size) { s with heap := h1, toks := tk + 1 }) :
    wpAny (model prog w) A (Builtin.«enumerate.__next__» ⟨[.ref e], []⟩) (fun fin z => ∃ v, fin = .done (.ret v) ∧ Q v z) E s := by
  obtain ⟨hp, gs, dr, tks, osx⟩ := s
  show wpAny _ _ (field (.ref e) 2 >>= _) _ _ _
  refine wpAny_bind (wpAny_field he rfl (x := .ref it) rfl ?_)
  refine wpAny_bind (D.item i _ _ _ hlt hst fun x g1 tk px st1 sb1 => ?_)
  replace sb1 : Heap.SameBut it hp g1 := sb1
  have en1 : IsEnumHeld g1 e it i old T f := (sb1.2 e hne).trans he
  show wpAny _ _ (field (.ref e) 3 >>= _) _ _ ⟨g1, gs, dr, tk, osx⟩
  refine wpAny_bind (wpAny_field en1 rfl (x := rawInt i) rfl ?_)
  show wpAny _ _ (field (.ref e) 4 >>= _) _ _ ⟨g1, gs, dr, tk, osx⟩
  refine wpAny_bind (wpAny_field en1 rfl (x := .none) rfl ?_)
  show wpAny _ _ (mkInt i >>= _) _ _ ⟨g1, gs, dr, tk, osx⟩
  refine wpAny_bind (wpAny_mkInt ?_)
  show wpAny _ _ (setField (.ref e) 3 (rawInt ((i : Int) + 1)) >>= _) _ _ ⟨g1, gs, dr, tk + 1, osx⟩
  refine wpAny_bind (wpAny_setField_rec en1 (by simp) fun g2 en2 sb2 => ?_)
  replace sb2 : Heap.SameBut e g1 g2 := sb2
  replace en2 : IsEnumHeld g2 e it ((i : Int) + 1) old T f := en2
  show wpAny _ _ (setField (.ref e) 4 .none >>= _) _ _ ⟨g2, gs, dr, tk + 1, osx⟩
  refine wpAny_bind (wpAny_setField_rec en2 (by simp) fun g3 en3 sb3 => ?_)
  replace sb3 : Heap.SameBut e g2 g3 := sb3
  replace en3 : IsEnumHeld g3 e it ((i : Int) + 1) old T f := en3
  show wpAny _ _ (newTuple [.int i tk, x] >>= _) _ _ ⟨g3, gs, dr, tk + 1, osx⟩
  refine wpAny_bind (wpAny_newTuple ?_)
  have en4 : IsEnumHeld (g3.push { cls := .type "tuple", data := .seq #[.int i tk, x] }) e it ((i : Int) + 1) old T f := Heap.get?_push_of_some _ en3
  generalize eq4 : g3.push { cls := .type "tuple", data := .seq #[.int i tk, x] } = g4 at en4
  have sz3 : g3.objs.size = hp.objs.size := by rw [sb3.1, sb2.1, sb1.1]
  have el : e < hp.objs.size := Heap.lt_size he
  have tp4 : g4.get? hp.objs.size = some { cls := .type "tuple", data := .seq #[.int i tk, x] } := by rw [← eq4, ← sz3]; exact Heap.get?_push_size _ rfl
  have sz4 : g4.objs.size = hp.objs.size + 1 := by rw [← eq4, Heap.size_push, sz3]
  have kp4 : ∀ b u, b ≠ e → b ≠ it → hp.get? b = some u → g4.get? b = some u := fun b u n1 n2 hb => by
    rw [← eq4]; exact Heap.get?_push_of_some _ (sb3.extBut b u n1 (sb2.extBut b u n1 (sb1.extBut b u n2 hb)))
  have st4 : St (i + 1) g4 := D.frame _ _ _ st1 fun b hb u y => by
    have nb : b ≠ e := fun q => hef (q ▸ hb)
    rw [← eq4]; exact Heap.get?_push_of_some _ (sb3.extBut b u nb (sb2.extBut b u nb y))
  show wpAny _ _ (Builtin.SmallTypes.ownedTupleIsFree (.ref e) >>= _) _ _ ⟨g4, gs, dr, tk + 1, osx⟩
  rw [sz3]
  clear eq4 en3 sb3 en2 sb2 en1 sb1 st1 sz3 g3 g2 g1
  refine wpAny_bind (wpAny_tupleHeld_enum (s := ⟨g4, gs, dr, tk + 1, osx⟩) en4 (kp4 T oT nTe nTi hT) fun g5 en5 sb5 => ?_)
  replace sb5 : Heap.SameBut e g4 g5 := sb5
  simp only [Bool.false_eq_true, if_false]
  refine wpAny_pure ⟨_, rfl, k x g5 tk px en5 (D.frame _ _ _ st4 fun b hb u y => sb5.extBut b u (fun q => hef (q ▸ hb)) y) (sb5.extBut _ _ (Nat.ne_of_gt el) tp4) ?_ fun b u n1 n2 hb => sb5.extBut b u n1 (kp4 b u n1 n2 hb)⟩
  show g5.objs.size = hp.objs.size + 1
  rw [sb5.1, sz4]

/-- the enumerate object at e ahead of its turn i -/
def EnAt (h : Heap) (e it : Addr) (i : Nat) : Prop := (i = 0 ∧ ∃ old, IsEnum h e it 0 old) ∨ ∃ old T f oT, IsEnumHeld h e it (i : Int) old T f ∧ h.get? T = some oT ∧ T ≠ e ∧ T ≠ it
theorem EnAt.type {e it : Addr} {i : Nat} (x : EnAt s.heap e it i) : s.TypeIs (.ref e) "enumerate" := by
  rcases x with ⟨_, old, q⟩ | ⟨old, T, f, oT, q, _⟩
  · exact ⟨_, q, rfl⟩
  · exact ⟨_, q, rfl⟩
theorem EnAt.live {h : Heap} {e it : Addr} {i : Nat} (x : EnAt h e it i) : e < h.objs.size := by
  rcases x with ⟨_, old, q⟩ | ⟨old, T, f, oT, q, _⟩
  · exact Heap.lt_size q
  · exact Heap.lt_size q
theorem EnAt.at {h h1 : Heap} {e it : Addr} {i : Nat} {S : Addr} (x : EnAt h e it i) (nS : S ≠ e) (lS : ∀ u, h.get? S = some u → ∃ u', h1.get? S = some u') (k : ∀ b u, b ≠ S → h.get? b = some u → h1.get? b = some u) : EnAt h1 e it i := by
  rcases x with ⟨z, old, q⟩ | ⟨old, T, f, oT, q, qT, n1, n2⟩
  · exact .inl ⟨z, old, k e _ nS.symm q⟩
  · by_cases hS : T = S
    · obtain ⟨u', z⟩ := lS oT (by rw [← hS]; exact qT)
      exact .inr ⟨old, T, f, u', k e _ nS.symm q, by rw [hS]; exact z, n1, n2⟩
    · exact .inr ⟨old, T, f, oT, k e _ nS.symm q, k T _ hS qT, n1, n2⟩
theorem next_item {e it : Addr} {fp : List Addr} {n i : Nat} {P : Nat → Value → Prop} {St : Nat → Heap → Prop} {Q : Option Value → Shared → Prop}
    (D : Draws prog w A.in1 it fp n P St) (he : EnAt s.heap e it i) (hst : St i s.heap) (hlt : i < n) (hne : e ≠ it) (hef : e ∉ fp)
    (k : ∀ x h1 tk, P i x → EnAt h1 e it (i + 1) → St (i + 1) h1 → h1.get? s.heap.objs.size = some { cls := .type "tuple", data := .seq #[.int i tk, x] } → h1.objs.size = s.heap.objs.size + 1 →
      (∀ b u, b ≠ e → b ≠ it → s.heap.get? b = some u → h1.get? b = some u) → Q (some (.ref s.heap.objs.size)) { s with heap := h1, toks := tk + 1 }) :
    wpAny (model prog w) A (pyNext (.ref e)) Q E s := by
  have il : it < s.heap.objs.size := by obtain ⟨_, y⟩ := D.live _ _ hst; exact Heap.lt_size y
  have el := he.live
  have cast : ((i + 1 : Nat) : Int) = (i : Int) + 1 := by omega
  rcases id he with ⟨z, old, q⟩ | ⟨old, T, f, oT, q, qT, n1, n2⟩
  · subst z
    refine wpAny_pyNext_enum_itemC (c := 0) D q hst hlt hne hef fun x h1 tk px ho st1 tp sz kp => k x h1 tk px (.inr ⟨x, s.heap.objs.size, false, _, ?_, tp, Nat.ne_of_gt el, Nat.ne_of_gt il⟩) st1 tp sz kp
    rw [cast]
    exact ho
  · have hTy := he.type
    unfold pyNext
    refine wpAny_bind (wpAny_attempt (wpAny_callSpecial?_slot (name := Str.ofString "__next__") hTy F.slot_enumerate_next
      (wpAny_call_entry F.slot_enumerate_next hTy F.entry_enumerate_next
        (next_held D q qT n1 n2 hst hlt hne hef fun x h1 tk px ho st1 tp sz kp => wpAny_pure (k x h1 tk px (.inr ⟨old, T, true, oT, ?_, kp T oT n1 n2 qT, n1, n2⟩) st1 tp sz kp)) (F.args_enumerate_next_1 _))))
    rw [cast]
    exact ho
theorem next_end {e it : Addr} {fp : List Addr} {n : Nat} {P : Nat → Value → Prop} {St : Nat → Heap → Prop} {Q : Option Value → Shared → Prop}
    (D : Draws prog w A.in1 it fp n P St) (he : EnAt s.heap e it n) (hst : St n s.heap)
    (k : ∀ h1, Heap.ExtBut it s.heap h1 → Q none { s with heap := h1 }) : wpAny (model prog w) A (pyNext (.ref e)) Q E s := by
  rcases id he with ⟨z, old, q⟩ | ⟨old, T, f, oT, q, qT, n1, n2⟩
  · exact wpAny_pyNext_enum_endD D q hst k
  · have hTy := he.type
    unfold pyNext
    refine wpAny_bind (wpAny_attempt (wpAny_callSpecial?_slot (name := Str.ofString "__next__") hTy F.slot_enumerate_next
      (wpAny_call_entry F.slot_enumerate_next hTy F.entry_enumerate_next ?_ (F.args_enumerate_next_1 _))))
    show wpAny _ _ (field (.ref e) 2 >>= _) _ _ _
    refine wpAny_bind (wpAny_field q rfl (x := .ref it) rfl ?_)
    refine wpAny_bind (D.done _ _ _ hst fun h1 x kp hx => ?_)
    obtain ⟨u, hu, hc⟩ := hx
    refine wpAny_bind (wpAny_isInstance (T := "StopIteration") (b := true) ⟨u, hu, hc⟩ isSubtype_stop ?_)
    exact wpAny_pure (k _ kp)
end

namespace F
theorem enum_no_len : typeLookup (.type "enumerate") "__len__" = pure none := by rw [typeLookup_type, builtinLookup_eq_fast]; kernel_rfl
theorem enum_no_hint : typeLookup (.type "enumerate") "__length_hint__" = pure none := by rw [typeLookup_type, builtinLookup_eq_fast]; kernel_rfl
end F

section
variable {prog : Program} {w : World} {A : Around} {s : Shared} {R : Result → Shared → Prop}
/-- the list so far: pairs that stand in the heap, each at a place of its own, behind N -/
structure Acc (h : Heap) (N S : Addr) (P : Nat → Value → Prop) (acc : Array Value) (i : Nat) : Prop where
  size : acc.size = i
  pair : ∀ j v, acc[j]? = some v → ∃ T tk x, v = .ref T ∧ P j x ∧ h.get? T = some { cls := .type "tuple", data := .seq #[.int j tk, x] } ∧ N ≤ T ∧ T ≠ S
  apart : ∀ (j l : Nat) (T : Addr), acc[j]? = some (.ref T) → acc[l]? = some (.ref T) → j = l
theorem loop {e it : Addr} {fp : List Addr} {n : Nat} {P : Nat → Value → Prop} {St : Nat → Heap → Prop} (D : Draws prog w A.in1.in1 it fp n P St) (hn : n ≤ sizeLine) (hne : e ≠ it) (hef : e ∉ fp) (S N : Addr) (hSf : S ∉ fp) (hSe : S ≠ e) (hSi : S ≠ it) (res : Value) :
    ∀ (m i : Nat) (s : Shared) (acc : Array Value) (c : Nat), n - i = m → i ≤ n → EnAt s.heap e it i → St i s.heap → N ≤ s.heap.objs.size → e < N → it < N → s.heap.get? S = some { cls := .type "list", dict := none, data := .seq acc c, slots := #[] } → Acc s.heap N S P acc i →
    (∀ h1 tk acc1 c1, (∀ b u, b ≠ S → b ≠ e → b ≠ it → s.heap.get? b = some u → h1.get? b = some u) → h1.get? S = some { cls := .type "list", dict := none, data := .seq acc1 c1, slots := #[] } → Acc h1 N S P acc1 n → R (.ok (.ret res)) { s with heap := h1, toks := tk }) →
    codeAny (model prog w) A (.builtin "list.extend.loop" ⟨[.ref S, .ref e, res], []⟩) R s := by
  intro m
  induction m with
  | zero =>
    intro i s acc c hm hi hen hst hN heN hiN hS hacc hR
    have hin : i = n := by omega
    subst hin
    refine codeAny_builtin PySem.F.entry_extend_loop ?_
    rw [Around.under_plainId PySem.F.plain_extend_loop _]
    show wpAny _ A.in1 (pyNext (.ref e) >>= _) _ _ s
    refine wpAny_bind (next_end D hen hst fun h1 kp => ?_)
    refine wpAny_pure (hR h1 s.toks acc c (fun b u _ _ n2 q => kp b u n2 q) (kp S _ hSi hS) ⟨hacc.size, fun j v hv => ?_, hacc.apart⟩)
    obtain ⟨T, tk, x, e1, px, q, q2, q3⟩ := hacc.pair j v hv
    exact ⟨T, tk, x, e1, px, kp T _ (fun z => by rw [z] at q2; exact Nat.lt_irrefl _ (Nat.lt_of_lt_of_le hiN q2)) q, q2, q3⟩
  | succ m ih =>
    intro i s acc c hm hi hen hst hN heN hiN hS hacc hR
    have hlt : i < n := by omega
    refine codeAny_builtin PySem.F.entry_extend_loop ?_
    rw [Around.under_plainId PySem.F.plain_extend_loop _]
    show wpAny _ A.in1 (pyNext (.ref e) >>= _) _ _ s
    refine wpAny_bind (next_item D hen hst hlt hne hef fun x h1 tk px en1 st1 tp sz kp => ?_)
    have hS1 : h1.get? S = some { cls := .type "list", dict := none, data := .seq acc c, slots := #[] } := kp S _ hSe hSi hS
    have lS : S < s.heap.objs.size := Heap.lt_size hS
    show wpAny _ A.in1 (updateSeq S (·.push (.ref s.heap.objs.size)) >>= _) _ _ _
    refine wpAny_bind ?_
    have kp2 : ∀ b u, b ≠ S → h1.get? b = some u → (h1.update S (Obj.mapSeq (·.push (.ref s.heap.objs.size)))).get? b = some u := fun b u nb q => (Heap.get?_update_other _ _ nb.symm).trans q
    have hS2 := Heap.get?_update_self (Obj.mapSeq (·.push (Value.ref s.heap.objs.size))) hS1 rfl
    have sz2 : (h1.update S (Obj.mapSeq (·.push (Value.ref s.heap.objs.size)))).objs.size = h1.objs.size := Heap.size_update ..
    refine wpAny_updateSeq hS1 rfl (wpAny_pure ⟨plainId_quiet PySem.F.plain_extend_loop _, ih (i + 1) _ (acc.push (.ref s.heap.objs.size)) _ (by omega) hlt (en1.at hSe (fun u _ => ⟨_, hS2⟩) kp2) (D.frame _ _ _ st1 fun b hb u q => kp2 b u (fun z => hSf (z ▸ hb)) q) ?_ heN hiN hS2 ⟨by rw [Array.size_push, hacc.size], fun j v hv => ?_, fun j l T h1 h2 => ?_⟩ fun h3 tk3 acc3 c3 k3 hS3 hacc3 => ?_⟩)
      (by rw [hacc.size]; omega) (by show (acc.push (Value.ref s.heap.objs.size)).size ≤ sizeLine + 1; rw [Array.size_push, hacc.size]; omega)
    · show N ≤ (h1.update S (Obj.mapSeq (·.push (Value.ref s.heap.objs.size)))).objs.size
      rw [sz2, sz]
      exact Nat.le_succ_of_le hN
    · rw [Array.getElem?_push] at hv
      split at hv
      · rename_i ej
        cases hv
        rw [hacc.size] at ej
        subst ej
        exact ⟨_, tk, x, rfl, px, kp2 _ _ (Nat.ne_of_gt lS) tp, hN, Nat.ne_of_gt lS⟩
      · obtain ⟨T, tk1, x1, e1, p1, q, q2, q3⟩ := hacc.pair j v hv
        exact ⟨T, tk1, x1, e1, p1, kp2 _ _ q3 (kp T _ (fun z => by rw [z] at q2; exact Nat.lt_irrefl _ (Nat.lt_of_lt_of_le heN q2)) (fun z => by rw [z] at q2; exact Nat.lt_irrefl _ (Nat.lt_of_lt_of_le hiN q2)) q), q2, q3⟩
    · have new : ∀ {j : Nat} {T : Addr}, acc[j]? = some (.ref T) → T ≠ s.heap.objs.size := fun {j T} hj z => by
        obtain ⟨T', _, _, e1, _, q, _⟩ := hacc.pair j _ hj
        cases e1
        exact Nat.lt_irrefl _ (by rw [z] at q; exact Heap.lt_size q)
      rw [Array.getElem?_push] at h1 h2
      split at h1
      · rename_i ej
        split at h2
        · rename_i el
          rw [ej, el]
        · cases h1
          exact absurd rfl (new h2)
      · split at h2
        · cases h2
          exact absurd rfl (new h1)
        · exact hacc.apart j l T h1 h2
    · refine hR h3 tk3 acc3 c3 (fun b u n1 n2 n3 q => k3 b u n1 n2 n3 (kp2 b u n1 (kp b u n2 n3 q))) hS3 hacc3
end
section
variable {prog : Program} {w : World} {A : Around} {s : Shared} {E : Value → Shared → Prop}
theorem extend {R : Result → Shared → Prop} {e it : Addr} {fp : List Addr} {n : Nat} {P : Nat → Value → Prop} {St : Nat → Heap → Prop} (D : Draws prog w A.in1.in1 it fp n P St) (hn : n ≤ sizeLine) (hne : e ≠ it) (hef : e ∉ fp) (S N : Addr) (hSf : S ∉ fp) (hSe : S ≠ e) (hSi : S ≠ it) (res : Value)
    (hen : EnAt s.heap e it 0) (hst : St 0 s.heap) (hN : N ≤ s.heap.objs.size) (heN : e < N) (hiN : it < N) {c0 : Nat} (hS : s.heap.get? S = some { cls := .type "list", data := .seq #[] c0 })
    (hR : ∀ h1 tk acc1 c1, (∀ b u, b ≠ S → b ≠ e → b ≠ it → s.heap.get? b = some u → h1.get? b = some u) → h1.get? S = some { cls := .type "list", dict := none, data := .seq acc1 c1, slots := #[] } → Acc h1 N S P acc1 n → R (.ok (.ret res)) { s with heap := h1, toks := tk }) :
    wpAny (model prog w) A.in1 (Builtin.List.listExtendWith (.ref S) (.ref e) res)
      (fun fin z => match fin with | .done f => R (.ok f) z | .again c' => c'.quiet = true ∧ codeAny (model prog w) A c' R z) (fun x z => R (.error x) z) s := by
  unfold Builtin.List.listExtendWith
  refine wpAny_bind (wpAny_typeOf hen.type ?_)
  have t1 : Builtin.List.listSameRef (.ref S) (.ref e) = false := by simp [Builtin.List.listSameRef, hSe]
  have t2 : (Value.type "enumerate" == Value.type "list") = false := by decide
  have t3 : (Value.type "enumerate" == Value.type "tuple") = false := by decide
  simp only [t1, t2, t3, Bool.or_false, Bool.false_eq_true, if_false]
  refine wpAny_bind ?_
  have goIt : ∀ {Q : Value → Shared → Prop} {Ex : Value → Shared → Prop}, Q (.ref e) s → wpAny (model prog w) A.in1 (pyIter (.ref e)) Q Ex s := fun {Q Ex} q => by
    have hTy := hen.type
    refine wpAny_pyIter_slot hTy PySem.F.slot_enumerate_iter (wpAny_call_entry PySem.F.slot_enumerate_iter hTy PySem.F.entry_enumerate_iter ?_ (PySem.F.args_enumerate_iter_1 _))
    show wpAny _ _ (ret (.ref e)) _ _ s
    exact wpAny_pure ⟨_, rfl, "enumerate", _, hTy, PySem.F.slot_enumerate_next.lookup, q⟩
  refine goIt ?_
  refine wpAny_bind (wpAny_holding ?_)
  unfold Builtin.List.listLengthHint
  refine wpAny_bind (wpAny_specialOf hen.type F.enum_no_len ?_)
  show wpAny _ A.in1 (specialOf (Value.ref e) (Str.ofString "__length_hint__") >>= _) _ _ _
  refine wpAny_bind (wpAny_specialOf hen.type F.enum_no_hint ?_)
  refine wpAny_pure ?_
  show wpAny _ A.in1 (rule "list.extend.makes-room" >>= fun _ => Builtin.List.listTouch (.ref S) >>= fun _ =>
    again (.builtin "list.extend.loop" ⟨[.ref S, .ref e, res], []⟩)) _ _ _
  refine wpAny_bind (wpAny_rule ?_)
  refine wpAny_bind ?_
  show wpAny _ A.in1 (updateSeq S (·.push .none) >>= fun _ => updateSeq S (·.pop)) _ _ _
  refine wpAny_bind (wpAny_updateSeq hS rfl ?_)
  have q2 := Heap.get?_update_self (Obj.mapSeq (·.push Value.none)) hS rfl
  refine wpAny_updateSeq (hz := by seq_fits) q2 rfl ?_
  have q3 := Heap.get?_update_self (Obj.mapSeq (·.pop)) q2 rfl
  have oth : ∀ b u, b ≠ S → s.heap.get? b = some u → ((s.heap.update S (Obj.mapSeq (·.push Value.none))).update S (Obj.mapSeq (·.pop))).get? b = some u :=
    fun b u nb q => (Heap.get?_update_other _ _ nb.symm).trans ((Heap.get?_update_other _ _ nb.symm).trans q)
  refine wpAny_pure ⟨plainId_quiet PySem.F.plain_extend_loop _, loop D hn hne hef S N hSf hSe hSi res n 0 _ _ _ rfl (Nat.zero_le _) (hen.at hSe (fun u _ => ⟨_, q3⟩) oth) (D.frame _ _ _ hst fun b hb u q => oth b u (fun z => hSf (z ▸ hb)) q) ?_ heN hiN q3 ⟨rfl, fun j v hv => by simp at hv, fun j l T h1 _ => by simp at h1⟩ fun h1 tk acc1 c1 k1 hS1 hacc1 => ?_⟩
  · show N ≤ ((s.heap.update S (Obj.mapSeq (·.push Value.none))).update S (Obj.mapSeq (·.pop))).objs.size
    rw [Heap.size_update, Heap.size_update]
    exact hN
  · exact hR h1 tk acc1 c1 (fun b u n1 n2 n3 q => k1 b u n1 n2 n3 (oth b u n1 q)) hS1 hacc1
/-- list(x), x an enumerate object that has given nothing yet -/
theorem call_listE {Q : Value → Shared → Prop} {e it : Addr} {fp : List Addr} {n : Nat} {P : Nat → Value → Prop} {St : Nat → Heap → Prop} (D : Draws prog w A.in1.in1.in1 it fp n P St) (hn : n ≤ sizeLine) (hne : e ≠ it) (hef : e ∉ fp) (hfp : ∀ b ∈ fp, b < s.heap.objs.size) (hiN : it < s.heap.objs.size)
    (hen : EnAt s.heap e it 0) (hst : St 0 s.heap)
    (hQ : ∀ h1 tk acc1 c1, (∀ b u, b ≠ e → b ≠ it → s.heap.get? b = some u → h1.get? b = some u) → h1.get? s.heap.objs.size = some { cls := .type "list", dict := none, data := .seq acc1 c1, slots := #[] } → Acc h1 s.heap.objs.size s.heap.objs.size P acc1 n → Q (.ref s.heap.objs.size) { s with heap := h1, toks := tk }) :
    wpAny (model prog w) A (call (.type "list") [.ref e]) Q E s := by
  have heN := hen.live
  have hSf : s.heap.objs.size ∉ fp := fun hm => Nat.lt_irrefl _ (hfp _ hm)
  refine callType_codes (Q₁ := fun obj z => obj = .ref s.heap.objs.size ∧ z = { s with heap := s.heap.push { cls := .type "list", data := .seq #[] } }) PySem.F.called_list (PySem.F.typeCall_list_1 _) PySem.F.entry_list_init
    (code_list_new _ ⟨rfl, rfl⟩) fun obj z hz => ?_
  obtain ⟨rfl, rfl⟩ := hz
  have hS : (s.heap.push { cls := .type "list", data := .seq #[] }).get? s.heap.objs.size = some { cls := .type "list", data := .seq #[] } := Heap.get?_push_size _ rfl
  refine ⟨⟨_, hS, rfl⟩, PySem.F.args_list_init_2 _ _, ?_⟩
  have sz : (s.heap.push { cls := .type "list", data := .seq #[] }).objs.size = s.heap.objs.size + 1 := Heap.size_push ..
  have hSe : s.heap.objs.size ≠ e := fun z => by
    rw [z] at heN
    exact Nat.lt_irrefl _ heN
  show wpAny _ A.in1.in1 (do let old ← Builtin.List.listItems (.ref s.heap.objs.size); Builtin.List.listUpdate (.ref s.heap.objs.size) (fun _ => #[]); letGo old.toList.reverse; Builtin.List.listExtendWith (.ref s.heap.objs.size) (.ref e) .none) _ _ _
  refine wpAny_bind ?_
  unfold Builtin.List.listItems
  refine wpAny_bind (wpAny_seqItems hS rfl (wpAny_pure ?_))
  show wpAny _ _ (updateSeq s.heap.objs.size (fun _ => #[]) >>= fun _ => letGo (#[] : Array Value).toList.reverse >>= fun _ => Builtin.List.listExtendWith (.ref s.heap.objs.size) (.ref e) .none) _ _ _
  refine wpAny_bind (wpAny_updateSeq hS rfl ?_)
  have q2 := Heap.get?_update_self (Obj.mapSeq (fun _ => (#[] : Array Value))) hS rfl
  have oth : ∀ b u, b ≠ s.heap.objs.size → s.heap.get? b = some u → ((s.heap.push { cls := .type "list", data := .seq #[] }).update s.heap.objs.size (Obj.mapSeq (fun _ => (#[] : Array Value)))).get? b = some u :=
    fun b u nb q => (Heap.get?_update_other _ _ nb.symm).trans (Heap.get?_push_of_some _ q)
  refine wpAny_bind (wpAny_letGo ?_)
  refine extend (A := A.in1) D hn hne hef s.heap.objs.size s.heap.objs.size hSf hSe (Nat.ne_of_gt hiN) .none (hen.at hSe (fun u q => ⟨_, q2⟩) oth) (D.frame _ _ _ hst fun b hb u q => oth b u (fun z => hSf (z ▸ hb)) q) ?_ heN hiN q2 fun h1 tk acc1 c1 k1 hS1 hacc1 => ?_
  · show s.heap.objs.size ≤ ((s.heap.push { cls := .type "list", data := .seq #[] }).update s.heap.objs.size (Obj.mapSeq (fun _ => (#[] : Array Value)))).objs.size
    rw [Heap.size_update, sz]
    exact Nat.le_succ _
  · exact ⟨rfl, hQ h1 tk acc1 c1 (fun b u n2 n3 q => by
      have nb : b ≠ s.heap.objs.size := Nat.ne_of_lt (Heap.lt_size q)
      exact k1 b u nb n2 n3 (oth b u nb q)) hS1 hacc1⟩
/-- list(enumerate(t)): a new list of new pairs -/
theorem list_enum {Q : Value → Shared → Prop} (hh : A.handled = none) {t : Addr} {items : Array Value} (ht : s.heap.IsTuple t items) (hn : items.size ≤ sizeLine)
    (hQ : ∀ h1 tk (L : Addr) acc1 c1, (∀ b u, s.heap.get? b = some u → h1.get? b = some u) → s.heap.objs.size ≤ L → h1.get? L = some { cls := .type "list", dict := none, data := .seq acc1 c1, slots := #[] } → Acc h1 L L (fun i v => items[i]? = some v) acc1 items.size → Q (.ref L) { s with heap := h1, toks := tk }) :
    wpAny (model prog w) A (call (.type "enumerate") [.ref t]) (fun v z => wpAny (model prog w) A (call (.type "list") [v]) Q E z) E s := by
  have lt : t < s.heap.objs.size := by obtain ⟨o, q, _⟩ := ht; exact Heap.lt_size q
  refine call_enum1 (begins_tuple t items) ht fun h1 en1 it1 sz1 k1 => ?_
  have nti : t ≠ s.heap.objs.size := Nat.ne_of_lt lt
  refine call_listE (it := s.heap.objs.size) (Draws.tuple (A := A.in1.in1.in1) hh s.heap.objs.size t nti items) hn (Nat.succ_ne_self _) (fun hm => ?_) (fun b hb => ?_) ?_ (.inl ⟨rfl, _, en1⟩) ⟨⟨_, it1, rfl, rfl⟩, ht.at fun o q => k1 t o q⟩ fun h2 tk acc2 c2 k2 hS hacc => ?_
  · rcases List.mem_cons.mp hm with z | hm
    · exact Nat.succ_ne_self _ z
    · have z : s.heap.objs.size + 1 = t := by simpa using hm
      rw [← z] at lt
      exact absurd lt (Nat.not_lt.mpr (Nat.le_succ _))
  · show b < h1.objs.size
    rw [sz1]
    rcases List.mem_cons.mp hb with z | hm
    · rw [z]
      exact Nat.lt_succ_of_lt (Nat.lt_succ_self _)
    · have z : b = t := by simpa using hm
      rw [z]
      exact Nat.lt_succ_of_lt (Nat.lt_succ_of_lt lt)
  · show s.heap.objs.size < h1.objs.size
    rw [sz1]
    exact Nat.lt_succ_of_lt (Nat.lt_succ_self _)
  · refine hQ h2 tk _ acc2 c2 (fun b u q => ?_) ?_ hS hacc
    · have lb := Heap.lt_size q
      exact k2 b u (Nat.ne_of_lt (Nat.lt_succ_of_lt lb)) (Nat.ne_of_lt lb) (k1 b u q)
    · show s.heap.objs.size ≤ h1.objs.size
      rw [sz1]
      exact Nat.le_succ_of_le (Nat.le_succ _)
end
end EvEnum

/-! What is walked, more of it: enumerate over a tuple, zip over a list and a tuple. -/
namespace EvWk
open PySem PySem.Spec PyProof.Rows L2
/-- a list (k) or a tuple -/
def SqK (K : PySem.W.Frag) (k : Bool) (H : Hp) (a : Addr) (xs : List V) : Prop := if k = true then SqL K H a xs else SqT K H a xs
def ItK (h : Heap) (k : Bool) (it a : Addr) (i : Nat) : Prop := if k = true then h.IsListIter it a i else h.IsTupleIter it a i
def SeK (h : Heap) (k : Bool) (a : Addr) (items : Array Value) : Prop := if k = true then h.IsList a items else h.IsTuple a items
theorem drawsK {prog : Program} {w : World} {A : Around} (hh : A.handled = none) (k : Bool) (it a : Addr) (hne : a ≠ it) (items : Array Value) :
    Draws prog w A it [it, a] items.size (fun i v => items[i]? = some v) (fun i h => ItK h k it a i ∧ SeK h k a items) := by
  cases k with
  | true => exact Draws.list hh it a hne items
  | false => exact Draws.tuple hh it a hne items
theorem seqK {X : Cx} {pins : List (Addr × Obj)} {σ : L2.St} {H : Hp} {s : Shared} {k : Bool} {a : Addr} {xs : List V} (I : L2.Inv X pins σ H s) (h : SqK X.K k H a xs) : ∃ its, Vals xs its ∧ SeK s.heap k a its.toArray := by
  cases k with
  | true =>
    obtain ⟨its, rv, p, _⟩ := I.list (show SqL X.K H a xs from h)
    exact ⟨its, rv, p.isList⟩
  | false =>
    obtain ⟨its, rv, p, _⟩ := I.tuple (show SqT X.K H a xs from h)
    exact ⟨its, rv, p⟩
theorem injK {X : Cx} {pins : List (Addr × Obj)} {σ : L2.St} {H : Hp} {s : Shared} {k : Bool} {a : Addr} {xs ys : List V} (I : L2.Inv X pins σ H s) (h : SqK X.K k H a xs) (h2 : SqK X.K k H a ys) : xs = ys := by
  cases k with
  | true => exact I.list_inj (show SqL X.K H a xs from h) (show SqL X.K H a ys from h2)
  | false => exact I.tuple_inj (show SqT X.K H a xs from h) (show SqT X.K H a ys from h2)
theorem ItK.at {h h' : Heap} {k : Bool} {it a : Addr} {i : Nat} (x : ItK h k it a i) (e : ∀ o, h.get? it = some o → h'.get? it = some o) : ItK h' k it a i := by
  cases k with
  | true => exact (show h.IsListIter it a i from x).at e
  | false => exact (show h.IsTupleIter it a i from x).at e
theorem ItK.obj {h : Heap} {k : Bool} {it a : Addr} {i : Nat} (x : ItK h k it a i) : ∃ o, h.get? it = some o ∧ ∀ v, o.data ≠ .cell v := by
  cases k with
  | true =>
    obtain ⟨o, e, _, d⟩ := (show h.IsListIter it a i from x)
    exact ⟨o, e, fun v q => by rw [d] at q; cases q⟩
  | false =>
    obtain ⟨o, e, _, d⟩ := (show h.IsTupleIter it a i from x)
    exact ⟨o, e, fun v q => by rw [d] at q; cases q⟩
/-! ### enumerate -/
def IteK (K : PySem.W.Frag) (k : Bool) (a : Addr) : It :=
  ⟨fun i H => ∃ (xs : List V) (x : V), SqK K k H a xs ∧ xs[i]? = some x, fun i H v H' => ∃ T x, v = .ref T ∧ H T = none ∧ H' = upd H T (.tup [.int (i : Nat), x]) ∧ ∀ xs, SqK K k H a xs → xs[i]? = some x, fun i H => ∃ xs : List V, SqK K k H a xs ∧ xs.length = i⟩
theorem turn_enumK {P : Program} {w : World} {K : PySem.W.Frag} {k : Bool} {elts : List Expr} {kk : Nat} {tpos : Pos} (a e it : Addr) :
    Turn P w K (.Tuple elts kk tpos) (IteK K k a) [e, it] e (fun i h => (∃ old, IsEnum h e it ((i : Nat) : Int) old) ∧ ItK h k it a i ∧ e ≠ it ∧ e ≠ a ∧ a ≠ it) where
  mem := by simp
  obj := fun i h st b hb => by
    obtain ⟨⟨old, he⟩, hi, _⟩ := st
    have e' : b = e ∨ b = it := by simpa using hb
    rcases e' with z | z
    · rw [z]; exact ⟨_, he, fun v q => nomatch q⟩
    · rw [z]; exact hi.obj
  keep := fun i h h' st k => let ⟨⟨old, he⟩, hi, hne⟩ := st; ⟨⟨old, k e (by simp) _ he⟩, hi.at fun o q => k it (by simp) o q, hne⟩
  item := by
    intro X hP hw hK hc i pins s σ H E I hf st hg
    subst hP hw hK
    obtain ⟨⟨old, he⟩, hit, hne, hea, hai⟩ := st
    obtain ⟨xs, x, hq, hx⟩ := hg
    obtain ⟨its, rv, p⟩ := seqK I hq
    obtain ⟨u, hu, ru⟩ := rv.get hx
    have hel : e < s.heap.objs.size := Heap.lt_size he
    have hil : it < s.heap.objs.size := by obtain ⟨_, q, _⟩ := hit.obj; exact Heap.lt_size q
    have hlt : i < its.toArray.size := by
      have := (List.getElem?_eq_some_iff.mp hu).1
      simpa using this
    refine wpAny_pyNext_enum_itemD (drawsK (prog := X.prog) (w := X.w) (A := X.A.in1) (I.ok.hd hc) k it a hai its.toArray) he ⟨hit, p⟩ hlt hne (by simp [hne, hea]) fun x' h' tk px ho st' hT hsz hk => ?_
    have ex : x' = u := by
      have px : its.toArray[i]? = some x' := px
      have hu' : its.toArray[i]? = some u := by simpa using hu
      exact Option.some.inj (px.symm.trans hu')
    subst ex
    refine ⟨_, rfl, wpAny_letOwnedTupleGo_enum (s := { s with heap := h', toks := tk + 1 }) ho fun h'' he' sb => ?_⟩
    have hT2 : h''.get? s.heap.objs.size = some { cls := .type "tuple", data := .seq #[.int i tk, x'] } := (sb.2 _ (Nat.ne_of_gt hel)).trans hT
    have new : ObjOk X.prog X.w (upd H s.heap.objs.size (.tup [.int (i : Nat), x])) h'' s.heap.objs.size (.tup [.int (i : Nat), x]) :=
      ⟨by show 2 ≤ sizeLine; decide, [.int i tk, x'], .cons ⟨_, rfl⟩ (.cons ru .nil), ⟨_, hT2, rfl, _, rfl⟩⟩
    have I1 : Inv X pins σ (upd H s.heap.objs.size (.tup [.int (i : Nat), x])) { s with heap := h'', toks := tk + 1 } :=
      I.turnedNew (ch := [e, it]) (fun b ob hb q => (sb.2 b (fun z => hb (by simp [z]))).trans (hk b ob (fun z => hb (by simp [z])) (fun z => hb (by simp [z])) q)) hf (Nat.le_refl _) new
    refine ⟨.ref s.heap.objs.size, _, I1, rfl, ⟨_, x, rfl, I.hok.fresh (Nat.le_refl _), rfl, fun ys hy => by rw [injK (k := k) I hy hq]; exact hx⟩, ⟨⟨x', ?_⟩, st'.1.at fun o q => (sb.2 it (Ne.symm hne)).trans q, hne, hea, hai⟩, fun b hb => ?_⟩
    · have e1 : ((i + 1 : Nat) : Int) = (i : Int) + 1 := by omega
      rw [e1]; exact he'
    · have hb' : b < s.heap.objs.size := by
        have e' : b = e ∨ b = it := by simpa using hb
        rcases e' with z | z
        · rw [z]; exact hel
        · rw [z]; exact hil
      rw [upd_ne (Nat.ne_of_lt hb')]
      exact (hf b hb).1
  done := by
    intro X hP hw hK hc i pins s σ H E I hf st hg
    subst hP hw hK
    obtain ⟨⟨old, he⟩, hit, hne, hea, hai⟩ := st
    obtain ⟨xs, hq, hx⟩ := hg
    obtain ⟨its, rv, p⟩ := seqK I hq
    obtain ⟨f0, f1, f2, f3, f4, f5⟩ := hf it (by simp)
    have hl := rv.length
    have e1 : i = its.toArray.size := by simp; omega
    exact wpAny_pyNext_enum_endD (drawsK (prog := X.prog) (w := X.w) (A := X.A.in1) (I.ok.hd hc) k it a hai its.toArray) he (by rw [← e1]; exact ⟨hit, p⟩) fun h' eb => ⟨rfl, I.turned (t' := s.toks) (fun b o hb q => eb b o hb q) f0 f1 f3 f4 f5⟩
  self := fun A i s Q E st h => let ⟨⟨_, he⟩, _⟩ := st; wpAny_pyIter_enum he h
def iEnumT (K : PySem.W.Frag) (ta : TA) : TI := fun σ H R => ta σ H fun vs H1 => ∃ a xs, vs = [.ref a] ∧ ((SqL K H1 a xs ∧ R (Ite K a) H1) ∨ (SqT K H1 a xs ∧ R (IteK K false a) H1))
theorem pi_enumA {X : Cx} {e : Expr} {ta : TA} {p pos tpos : Pos} {elts : List Expr} {kk : Nat} (hg : Gl X "enumerate") (hm : X.mg "enumerate" = none) (ha : PA X [e] ta) (hs : starEach [e] X.env = [(false, eval e X.env)] := by rfl) :
    PI X (.Tuple elts kk tpos) (.Call (.Name "enumerate" p) [e] [] pos) (iEnumT X.K ta) := by
  refine ⟨fun pins s σ H R I h => ?_⟩
  refine Call_ (ld_blt I hg hm boot_enumerate (PyProof.Rows.callWith_type1 (thn (ha.run pos pins s σ H _ I h) fun us s1 ⟨vs, H1, I1, r1, q1⟩ => ?_) hs rfl))
  obtain ⟨a, xs, ex, q1⟩ := q1
  subst ex
  cases r1 with
  | cons r rr =>
    cases rr
    cases r
    have fr : ∀ b ∈ [s1.heap.objs.size + 1, s1.heap.objs.size], FpOk X pins H1 b := fun b hb => by
      have e' : b = s1.heap.objs.size + 1 ∨ b = s1.heap.objs.size := by simpa using hb
      have hle : s1.heap.objs.size ≤ b := by
        rcases e' with z | z
        · rw [z]; exact Nat.le_add_right _ _
        · rw [z]; exact Nat.le_refl _
      exact I1.fpOk hle (I1.hok.fresh hle)
    rcases q1 with ⟨hq, q⟩ | ⟨hq, q⟩
    · obtain ⟨its, rv, p', hz⟩ := I1.list hq
      refine call_enumerate_list p'.isList fun h' he hit hsz hk => wpAny_pyIter_enum he ?_
      have I2 : Inv X pins σ H1 { s1 with heap := h' } := I1.kept (t' := s1.toks) hk
      exact ⟨s1.heap.objs.size + 1, [s1.heap.objs.size + 1, s1.heap.objs.size], _, _, H1, rfl, I2, turn_enum a (s1.heap.objs.size + 1) s1.heap.objs.size, ⟨⟨.none, he⟩, hit, Nat.succ_ne_self _⟩, fr, q⟩
    · obtain ⟨its, rv, p', hz⟩ := I1.tuple hq
      obtain ⟨oa, hoa, _⟩ := id p'
      have al : a < s1.heap.objs.size := Heap.lt_size hoa
      refine EvEnum.call_enum1 (begins_tuple a its.toArray) (show s1.heap.IsTuple a its.toArray from p') fun h' he hit hsz hk => wpAny_pyIter_enum he ?_
      have I2 : Inv X pins σ H1 { s1 with heap := h' } := I1.kept (t' := s1.toks) hk
      exact ⟨s1.heap.objs.size + 1, [s1.heap.objs.size + 1, s1.heap.objs.size], _, _, H1, rfl, I2, turn_enumK (k := false) a (s1.heap.objs.size + 1) s1.heap.objs.size, ⟨⟨.none, he⟩, ⟨_, hit, rfl, rfl⟩, Nat.succ_ne_self _, Nat.ne_of_gt (Nat.lt_succ_of_lt al), Nat.ne_of_lt al⟩, fr, q⟩
/-! ### zip -/
def ItzK (K : PySem.W.Frag) (k l : Bool) (a b : Addr) : It :=
  ⟨fun i H => ∃ (xs ys : List V) (x y : V), SqK K k H a xs ∧ SqK K l H b ys ∧ xs[i]? = some x ∧ ys[i]? = some y,
    fun i H v H' => ∃ T x y, v = .ref T ∧ H T = none ∧ H' = upd H T (.tup [x, y]) ∧ (∀ xs, SqK K k H a xs → xs[i]? = some x) ∧ ∀ ys, SqK K l H b ys → ys[i]? = some y,
    fun i H => ∃ xs ys : List V, SqK K k H a xs ∧ SqK K l H b ys ∧ i ≤ xs.length ∧ i ≤ ys.length ∧ (i = xs.length ∨ i = ys.length)⟩
theorem turn_zipK {P : Program} {w : World} {K : PySem.W.Frag} {k l : Bool} {elts : List Expr} {kk : Nat} {tpos : Pos} {a b z TI TO i1 i2 : Addr} (D : ZipSep2 z TI TO i1 i2 [i1, a] [i2, b]) (na : a ≠ i1) (nb : b ≠ i2) (nz1 : i1 ≠ z) (nz2 : i2 ≠ z) :
    Turn P w K (.Tuple elts kk tpos) (ItzK K k l a b) [z, TI, TO, i1, i2] z (fun i h => IsZip h z TI TO .none ∧ IsTupOf2 h TI (.ref i1) (.ref i2) ∧ (∃ x y, IsTupOf2 h TO x y) ∧ ItK h k i1 a i ∧ ItK h l i2 b i) where
  mem := by simp
  obj := fun i h st c hc => by
    obtain ⟨hz, hTI, ⟨x, y, hTO⟩, h1, h2⟩ := st
    have e' : c = z ∨ c = TI ∨ c = TO ∨ c = i1 ∨ c = i2 := by simpa using hc
    rcases e' with q | q | q | q | q
    · rw [q]; exact ⟨_, hz, fun v q => nomatch q⟩
    · rw [q]; exact ⟨_, hTI, fun v q => nomatch q⟩
    · rw [q]; exact ⟨_, hTO, fun v q => nomatch q⟩
    · rw [q]; exact h1.obj
    · rw [q]; exact h2.obj
  keep := fun i h h' st k => by
    obtain ⟨hz, hTI, ⟨x, y, hTO⟩, h1, h2⟩ := st
    exact ⟨k z (by simp) _ hz, k TI (by simp) _ hTI, ⟨x, y, k TO (by simp) _ hTO⟩, h1.at fun o q => k i1 (by simp) o q, h2.at fun o q => k i2 (by simp) o q⟩
  item := by
    intro X hP hw hK hc i pins s σ H E I hf st hg
    subst hP hw hK
    obtain ⟨hz, hTI, ⟨x0, y0, hTO⟩, h1, h2⟩ := st
    obtain ⟨xs, ys, x, y, hqx, hqy, hx, hy⟩ := hg
    obtain ⟨its, rv, p⟩ := seqK I hqx
    obtain ⟨its2, rv2, p2⟩ := seqK I hqy
    obtain ⟨u, hu, ru⟩ := rv.get hx
    obtain ⟨u2, hu2, ru2⟩ := rv2.get hy
    have hzl : z < s.heap.objs.size := Heap.lt_size hz
    have hl1 : i < its.toArray.size := by
      have := (List.getElem?_eq_some_iff.mp hu).1
      simpa using this
    have hl2 : i < its2.toArray.size := by
      have := (List.getElem?_eq_some_iff.mp hu2).1
      simpa using this
    refine wpAny_pyNext_zipD2_item D (drawsK (prog := X.prog) (w := X.w) (A := X.A.in1) (I.ok.hd hc) k i1 a na its.toArray) (drawsK (prog := X.prog) (w := X.w) (A := X.A.in1) (I.ok.hd hc) l i2 b nb its2.toArray) hz hTI hTO ⟨h1, p⟩ ⟨h2, p2⟩ hl1 hl2 fun v1 v2 h' tk pv1 pv2 z' TO' h1' h2' hT hsz hk => ?_
    have ex : v1 = u := by
      have pv1 : its.toArray[i]? = some v1 := pv1
      have hu' : its.toArray[i]? = some u := by simpa using hu
      exact Option.some.inj (pv1.symm.trans hu')
    have ex2 : v2 = u2 := by
      have pv2 : its2.toArray[i]? = some v2 := pv2
      have hu' : its2.toArray[i]? = some u2 := by simpa using hu2
      exact Option.some.inj (pv2.symm.trans hu')
    subst ex
    subst ex2
    refine ⟨_, rfl, wpAny_letOwnedTupleGo_zip (s := { s with heap := h', toks := tk }) z' fun h'' z'' sb => ?_⟩
    have hT2 : h''.get? s.heap.objs.size = some { cls := .type "tuple", data := .seq #[v1, v2] } := (sb.2 _ (Nat.ne_of_gt hzl)).trans hT
    have new : ObjOk X.prog X.w (upd H s.heap.objs.size (.tup [x, y])) h'' s.heap.objs.size (.tup [x, y]) :=
      ⟨by show 2 ≤ sizeLine; decide, [v1, v2], .cons ru (.cons ru2 .nil), ⟨_, hT2, rfl, _, rfl⟩⟩
    have I1 : Inv X pins σ (upd H s.heap.objs.size (.tup [x, y])) { s with heap := h'', toks := tk } :=
      I.turnedNew (t' := tk) (ch := [z, TI, TO, i1, i2]) (fun c o hb q => (sb.2 c (fun q' => hb (by simp [q']))).trans (hk c o (fun q' => hb (by simp [q'])) (fun q' => hb (by simp [q'])) (fun q' => hb (by simp [q'])) (fun q' => hb (by simp [q'])) q)) hf (Nat.le_refl _) new
    refine ⟨.ref s.heap.objs.size, _, I1, rfl, ⟨_, x, y, rfl, I.hok.fresh (Nat.le_refl _), rfl, fun ls hls => by rw [injK (k := k) I hls hqx]; exact hx, fun ls hls => by rw [injK (k := l) I hls hqy]; exact hy⟩, ⟨z'', ?_, ⟨v1, v2, ?_⟩, ?_, ?_⟩, fun c hcm => ?_⟩
    · exact (sb.2 _ D.TIz).trans (hk _ _ D.TIz D.TITO D.TIi1 D.TIi2 hTI)
    · exact (sb.2 _ D.TOz).trans TO'
    · exact h1'.1.at fun o q => (sb.2 _ nz1).trans q
    · exact h2'.1.at fun o q => (sb.2 _ nz2).trans q
    · have hlt : c < s.heap.objs.size := by
        have e' : c = z ∨ c = TI ∨ c = TO ∨ c = i1 ∨ c = i2 := by simpa using hcm
        rcases e' with q | q | q | q | q
        · rw [q]; exact hzl
        · rw [q]; exact Heap.lt_size hTI
        · rw [q]; exact Heap.lt_size hTO
        · rw [q]; obtain ⟨_, e1, _⟩ := h1.obj; exact Heap.lt_size e1
        · rw [q]; obtain ⟨_, e2, _⟩ := h2.obj; exact Heap.lt_size e2
      rw [upd_ne (Nat.ne_of_lt hlt)]
      exact (hf c hcm).1
  done := by
    intro X hP hw hK hc i pins s σ H E I hf st hg
    subst hP hw hK
    obtain ⟨hz, hTI, ⟨x0, y0, hTO⟩, h1, h2⟩ := st
    obtain ⟨xs, ys, hqx, hqy, hl1, hl2, hend⟩ := hg
    obtain ⟨its, rv, p⟩ := seqK I hqx
    obtain ⟨its2, rv2, p2⟩ := seqK I hqy
    have l1 := rv.length
    have l2 := rv2.length
    have e1 : i ≤ its.toArray.size := by simp; omega
    have e2 : i ≤ its2.toArray.size := by simp; omega
    have e3 : i = its.toArray.size ∨ i = its2.toArray.size := by
      simp
      omega
    exact wpAny_pyNext_zipD2_end D (drawsK (prog := X.prog) (w := X.w) (A := X.A.in1) (I.ok.hd hc) k i1 a na its.toArray) (drawsK (prog := X.prog) (w := X.w) (A := X.A.in1) (I.ok.hd hc) l i2 b nb its2.toArray) hz hTI hTO ⟨h1, p⟩ ⟨h2, p2⟩ e1 e2 e3 fun h' tk hk => ⟨rfl, I.turnedL (t' := tk) (ch := [z, TI, TO, i1, i2]) (fun c o hb q =>
      hk c o (fun q' => hb (by simp [q'])) (fun q' => hb (by simp [q'])) (fun q' => hb (by simp [q'])) (fun q' => hb (by simp [q'])) q) hf⟩
  self := fun A i s Q E st h => wpAny_pyIter_zip st.1 h
theorem beginsK (k : Bool) (a : Addr) (items : Array Value) : ∃ o, Begins (.ref a) o (fun h => SeK h k a items) ∧ ∀ (h : Heap) (it : Addr), h.get? it = some o → ItK h k it a 0 := by
  cases k with
  | true => exact ⟨_, begins_list a items, fun h it e => ⟨_, e, rfl, rfl⟩⟩
  | false => exact ⟨_, begins_tuple a items, fun h it e => ⟨_, e, rfl, rfl⟩⟩
theorem SeK.lt {h : Heap} {k : Bool} {a : Addr} {items : Array Value} (x : SeK h k a items) : a < h.objs.size := by
  cases k with
  | true =>
    obtain ⟨o, e, _⟩ := (show h.IsList a items from x)
    exact Heap.lt_size e
  | false =>
    obtain ⟨o, e, _⟩ := (show h.IsTuple a items from x)
    exact Heap.lt_size e
def iZipK (K : PySem.W.Frag) (ta : TA) : TI := fun σ H R => ta σ H fun vs H1 => ∃ k l a b xs ys, vs = [.ref a, .ref b] ∧ SqK K k H1 a xs ∧ SqK K l H1 b ys ∧ R (ItzK K k l a b) H1
theorem pi_zipK {X : Cx} {e e2 : Expr} {ta : TA} {p pos tpos : Pos} {elts : List Expr} {kk : Nat} (hg : Gl X "zip") (hm : X.mg "zip" = none) (ha : PA X [e, e2] ta)
    (hs : starEach [e, e2] X.env = (false, eval e X.env) :: starEach [e2] X.env := by rfl) (hpl : (backTo pos (starEach [e2] X.env)).any (·.1) = false := by rfl) :
    PI X (.Tuple elts kk tpos) (.Call (.Name "zip" p) [e, e2] [] pos) (iZipK X.K ta) := by
  refine ⟨fun pins s σ H R I h => ?_⟩
  refine Call_ (ld_blt I hg hm PyProof.Rows.boot_zip (PyProof.Rows.callWith_type1 (thn (ha.run pos pins s σ H _ I h) fun us s1 ⟨vs, H1, I1, r1, q1⟩ => ?_) hs hpl))
  obtain ⟨k, l, a, b, xs, ys, ex, hqx, hqy, q⟩ := q1
  subst ex
  cases r1 with
  | cons r rr =>
    cases rr with
    | cons r' rr =>
      cases rr
      cases r
      cases r'
      have fresh5 : ∀ c, c ∈ [s1.heap.objs.size + 4, s1.heap.objs.size + 2, s1.heap.objs.size + 3, s1.heap.objs.size, s1.heap.objs.size + 1] → FpOk X pins H1 c := fun c hcm => by
        have e' : c = s1.heap.objs.size + 4 ∨ c = s1.heap.objs.size + 2 ∨ c = s1.heap.objs.size + 3 ∨ c = s1.heap.objs.size ∨ c = s1.heap.objs.size + 1 := by simpa using hcm
        have hle : s1.heap.objs.size ≤ c := by
          rcases e' with z | z | z | z | z
          · rw [z]; exact Nat.le_add_right _ _
          · rw [z]; exact Nat.le_add_right _ _
          · rw [z]; exact Nat.le_add_right _ _
          · rw [z]; exact Nat.le_refl _
          · rw [z]; exact Nat.le_add_right _ _
        exact I1.fpOk hle (I1.hok.fresh hle)
      obtain ⟨its, rv, p1⟩ := seqK I1 hqx
      obtain ⟨its2, rv2, p2⟩ := seqK I1 hqy
      obtain ⟨o1, B1, n1⟩ := beginsK k a its.toArray
      obtain ⟨o2, B2, n2⟩ := beginsK l b its2.toArray
      have la := p1.lt
      have lb := p2.lt
      refine zip_begins2 B1 B2 p1 p2 fun h' hz hTI hTO h1 h2 hsz hk => wpAny_pyIter_zip hz ?_
      have I2 : L2.Inv X pins σ H1 { s1 with heap := h' } := I1.kept (t' := s1.toks) hk
      refine ⟨s1.heap.objs.size + 4, [s1.heap.objs.size + 4, s1.heap.objs.size + 2, s1.heap.objs.size + 3, s1.heap.objs.size, s1.heap.objs.size + 1], _, _, H1, rfl, I2, turn_zipK (k := k) (l := l) (a := a) (b := b) (zip_sep2 (fp1 := [a]) (fp2 := [b]) (fun c hc => by rw [List.mem_singleton.mp hc]; exact la) (fun c hc => by rw [List.mem_singleton.mp hc]; exact lb)) (Nat.ne_of_lt la) (Nat.ne_of_lt (Nat.lt_succ_of_lt lb)) (Nat.ne_of_lt (Nat.lt_add_of_pos_right (by decide))) (Nat.ne_of_lt (Nat.add_lt_add_left (by decide) _)), ⟨hz, hTI, ⟨_, _, hTO⟩, n1 _ _ h1, n2 _ _ h2⟩, fresh5, q⟩
theorem walk_zipK {K : PySem.W.Frag} {k l : Bool} {a b : Addr} {xs ys : List V} {n : Nat} (hn : n = min xs.length ys.length) : Walk (ItzK K k l a b) n (fun H => SqK K k H a xs ∧ SqK K l H b ys) (YPair (fun i => xs[i]?) (fun i => ys[i]?)) := by
  subst hn
  refine ⟨fun i _ hi q => ?_, fun _ q => ⟨xs, ys, q.1, q.2, by omega, by omega, by omega⟩, fun i H v H' _ q y => ?_⟩
  · have h1 : i < xs.length := by omega
    have h2 : i < ys.length := by omega
    exact ⟨xs, ys, xs[i], ys[i], q.1, q.2, by simp [h1], by simp [h2]⟩
  · obtain ⟨T, x, z, h1, h2, h3, h4, h5⟩ := y
    exact ⟨T, x, z, h1, h2, h3, h4 xs q.1, h5 ys q.2⟩
theorem walk_enumK {K : PySem.W.Frag} {k : Bool} {a : Addr} {xs : List V} : Walk (IteK K k a) xs.length (fun H => SqK K k H a xs) (YPair (fun i => some (.int (i : Nat))) (fun i => xs[i]?)) := by
  refine ⟨fun i _ hi q => ⟨xs, xs[i], q, by simp [hi]⟩, fun _ q => ⟨xs, q, rfl⟩, fun i H v H' _ q y => ?_⟩
  obtain ⟨T, x, h1, h2, h3, h4⟩ := y
  exact ⟨T, _, x, h1, h2, h3, rfl, h4 xs q⟩
end EvWk

/-! max and min of a list or a tuple of ints. -/
namespace EvWk
open PySem PySem.Spec PyProof.Rows L2
theorem reads_ints {h : Heap} : ∀ {us : List Value} {ns : List Int}, Vals (ns.map V.int) us → ∃ as, ReadsAll h us (ns.map PyData.int) as
  | _, [], r => by
    rw [List.map_nil] at r
    cases r
    exact ⟨[], .nil⟩
  | _, n :: ns, r => by
    rw [List.map_cons] at r
    cases r with
    | cons r1 r2 =>
      obtain ⟨t, rfl⟩ := r1
      obtain ⟨as, q⟩ := reads_ints (h := h) r2
      exact ⟨_, .cons (.int _ _) q⟩
theorem alike_ints' (ns : List Int) : PySem.W.AlikeAll (ns.map PyData.int) := by
  refine ⟨fun x hx y hy => ?_, fun x hx => ?_⟩
  · obtain ⟨i, _, rfl⟩ := List.mem_map.mp hx
    obtain ⟨j, _, rfl⟩ := List.mem_map.mp hy
    simp [PySem.W.alike]
  · obtain ⟨i, _, rfl⟩ := List.mem_map.mp hx
    exact fun e => by cases e
theorem depth_ints' : ∀ ns : List Int, PyData.depthAll (ns.map PyData.int) = 0
  | [] => by simp [PyData.depthAll]
  | n :: ns => by
    rw [List.map_cons, PyData.depthAll, depth_ints' ns]
    simp [PyData.depth]
def rMaxI (K : PySem.W.Frag) : List V → Hp → VK → Prop := fun vs H Q => ∃ (k : Bool) (a : Addr) (n : Int) (ns : List Int), vs = [.ref a] ∧ SqK K k H a ((n :: ns).map V.int) ∧ Q (.int (ns.foldl max n)) H
def rMinI (K : PySem.W.Frag) : List V → Hp → VK → Prop := fun vs H Q => ∃ (k : Bool) (a : Addr) (n : Int) (ns : List Int), vs = [.ref a] ∧ SqK K k H a ((n :: ns).map V.int) ∧ Q (.int (ns.foldl min n)) H
section
variable {X : Cx}
theorem cr_maxI (hc : X.calm = true) (hu : X.A.units + 64 < cLine) : CallR X (.builtin "max") (rMaxI X.K) := by
  intro pins s σ H vs us Q I r h
  obtain ⟨k, a, n, ns, rfl, hs, q⟩ := h
  obtain ⟨its, rv, hl⟩ := seqK I hs
  rw [Vals.ref1 r]
  obtain ⟨as, hr⟩ := reads_ints (h := s.heap) rv
  have hr : ReadsAll s.heap its.toArray.toList (.int n :: ns.map .int) as := hr
  have al : PySem.W.AlikeAll (.int n :: ns.map .int) := alike_ints' (n :: ns)
  have dp : X.A.units + 1 + PyData.depthAll (.int n :: ns.map .int) < cLine := by
    have := depth_ints' (n :: ns)
    rw [List.map_cons] at this
    rw [this]
    omega
  have fin : ∀ (i : Nat) v h' tk bs, its.toArray[i]? = some v → Reads h' v (PySem.W.maxD (.int n) (ns.map .int)) bs → (∀ b o, s.heap.get? b = some o → h'.get? b = some o) → ∃ x H', L2.Inv X pins σ H' { s with heap := h', toks := tk } ∧ RelV x v ∧ Q x H' := fun i v h' tk bs _ hR hk => by
    rw [PySem.W.maxD_ints] at hR
    cases hR
    exact ⟨.int _, H, I.kept hk, ⟨_, rfl⟩, q⟩
  cases k with
  | true => exact PySem.W.max_list_data (I.ok.hd hc) (show s.heap.IsList a its.toArray from hl) hr al dp fin
  | false => exact PySem.W.max_tuple_data (I.ok.hd hc) (show s.heap.IsTuple a its.toArray from hl) hr al dp fin
theorem cr_minI (hc : X.calm = true) (hu : X.A.units + 64 < cLine) : CallR X (.builtin "min") (rMinI X.K) := by
  intro pins s σ H vs us Q I r h
  obtain ⟨k, a, n, ns, rfl, hs, q⟩ := h
  obtain ⟨its, rv, hl⟩ := seqK I hs
  rw [Vals.ref1 r]
  obtain ⟨as, hr⟩ := reads_ints (h := s.heap) rv
  have hr : ReadsAll s.heap its.toArray.toList (.int n :: ns.map .int) as := hr
  have al : PySem.W.AlikeAll (.int n :: ns.map .int) := alike_ints' (n :: ns)
  have dp : X.A.units + 1 + PyData.depthAll (.int n :: ns.map .int) < cLine := by
    have := depth_ints' (n :: ns)
    rw [List.map_cons] at this
    rw [this]
    omega
  have fin : ∀ (i : Nat) v h' tk bs, its.toArray[i]? = some v → Reads h' v (PySem.W.minD (.int n) (ns.map .int)) bs → (∀ b o, s.heap.get? b = some o → h'.get? b = some o) → ∃ x H', L2.Inv X pins σ H' { s with heap := h', toks := tk } ∧ RelV x v ∧ Q x H' := fun i v h' tk bs _ hR hk => by
    rw [PySem.W.minD_ints] at hR
    cases hR
    exact ⟨.int _, H, I.kept hk, ⟨_, rfl⟩, q⟩
  cases k with
  | true => exact PySem.W.min_list_data (I.ok.hd hc) (show s.heap.IsList a its.toArray from hl) hr al dp fin
  | false => exact PySem.W.min_tuple_data (I.ok.hd hc) (show s.heap.IsTuple a its.toArray from hl) hr al dp fin
end
end EvWk

/-! sorted(set(xs)), xs a list of ints. -/
namespace EvWk
open PySem PySem.Spec PyProof.Rows L2
abbrev newSet (w : World) : Obj := { cls := .type "set", dict := none, data := .set #[] 0 (.fresh 0 0 (!w.params.followText "set-order")) }
section
variable {P : Program} {w : World} {A : Around} {E : Value → Shared → Prop} {s : Shared}
set_option maxHeartbeats 3200000 in
/-- set(l): a set whose members are the list's -/
theorem set_of_list {l : Addr} {us : Array Value} (ns : List Int) {Q : Value → Shared → Prop} (quiet : A.handled = none) (isl : s.heap.IsList l us) (are : IntsAre us.toList ns) (few : ns.length + 1 < scanBound)
    (k : ∀ (g : Heap) (t c : Nat), SetR w g s.heap.objs.size (fun j => decide (j ∈ ns)) c → c ≤ ns.length → (∀ b o, s.heap.get? b = some o → g.get? b = some o) → Q (.ref s.heap.objs.size) { s with heap := g, toks := t }) :
    wpAny (model P w) A (call (.type "set") [.ref l]) Q E s := by
  have sz : us.size = ns.length := by
    have q := IntsAre.length are
    simpa using q
  have N := F.called_set
  obtain ⟨cc, tl, mr⟩ := N.mro
  have q1 := N.made
  have q2 := N.sub
  have q3 := N.notType
  have q4 := N.canCreate
  have q5 := F.typeCall_set_1 (.ref l)
  refine wpAny_call (codeAny_of_tree ?_)
  show wpAny _ _ (callAny (.type "set") _) _ _ _
  refine wpAny_pure ⟨Code.quiet_builtin _ (by decide +kernel), codeAny_builtin F.entry_type_call ?_⟩
  rw [Around.under_plain (weight_type_call_type "set" [.ref l] []) rfl]
  repeat (any_goals (first | assumption | wp_step))
  refine codeAny_mono (code_set_led1 (.ref l) (E := E) (Q₁ := fun ob z => ob = .ref s.heap.objs.size ∧ z = { s with heap := s.heap.push (newSet w) }) ⟨rfl, rfl⟩) fun r z hr => ?_
  cases r with
  | error _ => exact hr
  | ok fl =>
  cases fl with
  | ret ob =>
    obtain ⟨rfl, rfl⟩ := hr
    have at0 : (s.heap.push (newSet w)).get? s.heap.objs.size = some (newSet w) := Heap.get?_push_size _ rfl
    have ty0 : Shared.TypeIs { s with heap := s.heap.push (newSet w) } (.ref s.heap.objs.size) "set" := ⟨_, at0, rfl⟩
    have q6 := N.init.lookup
    have q7 := N.init.bind (.ref s.heap.objs.size)
    repeat (any_goals (first | assumption | wp_step))
    refine codeAny_mono (codeAny_call_builtin (R := wants (fun r z => r = .none ∧ ∃ g t c, z = { s with heap := g, toks := t } ∧ SetR w g s.heap.objs.size (fun j => decide (j ∈ ns)) c ∧ c ≤ ns.length ∧ (∀ b o, s.heap.get? b = some o → g.get? b = some o)) E) N.init.plain F.entry_set_init (check_set_init_1 ty0 ?_)) fun r2 z2 hr2 => ?_
    · obtain ⟨⟨oc, od, oa, os⟩, ho, hc, m, hd⟩ := isl
      simp only at hc hd
      subst hc
      subst hd
      have ho' : (s.heap.push (newSet w)).get? l = some { cls := .type "list", dict := od, data := .seq us m, slots := os } := Heap.get?_push_of_some _ ho
      have z1 := F.sub_list_set
      have z2 := F.sub_list_frozenset
      have z3 : (Value.type "list" == Value.type "dict") = false := by decide
      have isl' : (s.heap.push (newSet w)).IsList l us := ⟨_, ho', rfl, m, rfl⟩
      unfold Builtin.«set.__init__» noKeywords Builtin.Frozenset.updateFrom
      generalize hPI : pyIter = PI
      wp_walk
      subst hPI
      refine wpAny_pyIter_list isl' ?_
      refine wpAny_bind (wpAny_runValue ?_)
      have ll : l < s.heap.objs.size := Heap.lt_size ho
      have ps : (s.heap.push (newSet w)).objs.size = s.heap.objs.size + 1 := Heap.size_push ..
      have nI : l ≠ (s.heap.push (newSet w)).objs.size := by
        rw [ps]
        exact Nat.ne_of_lt (Nat.lt_succ_of_lt ll)
      have nf : s.heap.objs.size ∉ [(s.heap.push (newSet w)).objs.size, l] := by
        rw [ps]
        simp only [List.mem_cons, List.not_mem_nil, or_false, not_or]
        exact ⟨Nat.ne_of_lt (Nat.lt_succ_self _), Nat.ne_of_gt ll⟩
      have val : ∀ (i : Nat) (v : Value), us[i]? = some v → ∃ k t, ns[i]? = some k ∧ v = .int k t := fun i v hv => by
        have hi : i < ns.length := by
          rw [← sz]
          exact (Array.getElem?_eq_some_iff.mp hv).1
        obtain ⟨t, e⟩ := PyProof.Rows.IntsAre.int_at are i v (by rw [Array.getElem?_toList]; exact hv)
        refine ⟨ns[i], t, List.getElem?_eq_getElem hi, ?_⟩
        rw [e, List.getD_eq_getElem?_getD, List.getElem?_eq_getElem hi] <;> rfl
      refine set_update_ints ((Walks.list (by simp [quiet]) _ l nI us).toS) s.heap.objs.size nf ns sz few val (us.size - 0) 0 _ (by omega) (Nat.zero_le _) ⟨⟨_, Heap.get?_push_size _ rfl, rfl, rfl⟩, isl'.push _⟩ ⟨0, Nat.le_refl 0, setR_new_at (Heap.get?_push_of_some _ at0)⟩ ?_
      intro z c mv hc hS
      obtain ⟨g, g2, d2, t2, o2⟩ := z
      have eg : g2 = s.gens := mv.gens
      have ed : d2 = s.drawn := mv.drawn
      have eo : o2 = s.os := mv.os
      subst eg
      subst ed
      subst eo
      show wpAny _ _ _ _ _ _
      refine wpAny_pure ?_
      show wpAny _ _ (ret Value.none) _ _ _
      rw [sz] at hc
      refine wpAny_pure ⟨rfl, g, t2, c, rfl, hS, hc, fun b o e => ?_⟩
      have b0 := Heap.lt_size e
      refine mv.heap b o ?_ (Heap.get?_push_of_some _ (Heap.get?_push_of_some _ e))
      rw [ps]
      simp only [List.mem_cons, List.not_mem_nil, or_false, not_or]
      exact ⟨Nat.ne_of_lt b0, Nat.ne_of_lt (Nat.lt_succ_of_lt b0)⟩
    · cases r2 with
      | error _ => exact hr2
      | ok fl2 =>
      cases fl2 with
      | ret v =>
        obtain ⟨rfl, g, t, c, rfl, a1, a2, a3⟩ := hr2
        repeat (any_goals (first | assumption | wp_step))
        exact k _ _ _ a1 a2 a3
      | _ => exact hr2.elim
  | _ => exact hr.elim
end
def tSsetI (K : PySem.W.Frag) (ta : TE) : TE := fun σ H Q => ta σ H fun x H1 => ∃ (l : Addr) (ns : List Int), x = .ref l ∧ SqL K H1 l (ns.map V.int) ∧ ns.length < 64 ∧ ∀ (ms : List Int) (q : Addr), ms.Pairwise (· < ·) → (∀ k, k ∈ ms ↔ k ∈ ns) → H1 q = none → Q (.ref q) (upd H1 q (.lst (ms.map V.int)))
theorem pe_ssetI {X : Cx} {a : Expr} {ta : TE} {p p2 q pos : Pos} (hc : X.calm = true) (hg : Gl X "sorted") (hm : X.mg "sorted" = none) (hg2 : Gl X "set") (hm2 : X.mg "set" = none) (ha : PE X a ta)
    (na : starEach [a] X.env = (false, eval a X.env) :: starEach [] X.env := by rfl) : PE X (.Call (.Name "sorted" p) [.Call (.Name "set" p2) [a] [] q] [] pos) (tSsetI X.K ta) := by
  refine ⟨fun pins s σ H Q I h => ?_⟩
  refine Call_ (ld_blt I hg hm (u := .builtin "sorted") (by decide +kernel) ?_)
  refine PyProof.Rows.callWith_builtin1 (PyProof.Rows.args_cons ?_ rfl) rfl rfl
  refine Call_ (ld_blt I hg2 hm2 boot_set ?_)
  refine PyProof.Rows.callWith_type1 (PyProof.Rows.args_cons (thn (ha.run pins s σ H _ I h) fun v s1 ⟨x, H1, I1, r1, q1⟩ => PyProof.Rows.args_nil ?_) na) na rfl
  obtain ⟨l, ns, rfl, hq, hz, q1⟩ := q1
  cases r1
  obtain ⟨its, r, pl, _⟩ := I1.list hq
  refine set_of_list ns (I1.ok.hd hc) pl.isList (by simpa using r.ints) (by unfold scanBound; omega) fun g t c hS hcn hk => ?_
  refine PyProof.Rows.args_nil ?_
  have I2 : L2.Inv X pins σ H1 { s1 with heap := g, toks := t } := I1.kept hk
  refine sorted_set (s := { s1 with heap := g, toks := t }) hS (I2.ok.hd hc) (by omega) fun s3 b out cc ms k3 g3 o3 hb ho hi hp hm hl => ?_
  have few : (ms.map V.int).length ≤ sizeLine := by
    rw [List.length_map, hl, sizeLine_eq]
    omega
  generalize ez : ({ s1 with heap := g, toks := t } : Shared) = z at *
  have nb : H1 b = none := I2.hok.fresh hb
  have J : L2.Inv X pins σ (upd H1 b (.lst (ms.map V.int))) { z with heap := s3.heap, gens := s3.gens, drawn := s3.drawn, toks := s3.toks } :=
    I2.call (ch := []) (Un.laid k3 hb nb) (I2.hok.laid k3 hb ⟨few, out.toList, cc, vals_of_ints hi, ho⟩) (by rw [g3]; exact I2.bare) (fun _ z => nomatch z)
  have e : s3 = { z with heap := s3.heap, gens := s3.gens, drawn := s3.drawn, toks := s3.toks } := by
    cases s3
    cases z
    cases o3
    rfl
  rw [e]
  exact ⟨.ref b, _, J, rfl, q1 ms b hp (fun k => by simpa using hm k) nb⟩
end EvWk

/-! What sorted gives is one list alone. -/
namespace Ev
open PySem PySem.Spec PyProof.Rows
theorem insI_perm (i : Int) : ∀ l : List Int, (insI i l).Perm (i :: l)
  | [] => .refl _
  | j :: r => by
    rw [insI]
    split
    · exact .refl _
    · exact ((insI_perm i r).cons j).trans (List.Perm.swap i j r)
theorem sortI_perm : ∀ l : List Int, (sortI l).Perm l
  | [] => .refl _
  | i :: r => (insI_perm i _).trans ((sortI_perm r).cons i)
theorem insI_sorted (i : Int) : ∀ l : List Int, l.Pairwise (· ≤ ·) → (insI i l).Pairwise (· ≤ ·)
  | [], _ => by simp [insI]
  | j :: r, h => by
    rw [insI]
    obtain ⟨h1, h2⟩ := List.pairwise_cons.mp h
    split
    · rename_i hij
      refine List.pairwise_cons.mpr ⟨fun y hy => ?_, h⟩
      rcases List.mem_cons.mp hy with rfl | hy
      · exact hij
      · exact Int.le_trans hij (h1 y hy)
    · rename_i hij
      refine List.pairwise_cons.mpr ⟨fun y hy => ?_, insI_sorted i r h2⟩
      rcases List.mem_cons.mp ((insI_perm i r).mem_iff.mp hy) with rfl | hy
      · omega
      · exact h1 y hy
theorem sortI_sorted : ∀ l : List Int, (sortI l).Pairwise (· ≤ ·)
  | [] => .nil
  | i :: r => insI_sorted i _ (sortI_sorted r)
/-- two rows of the same things that rise are one -/
theorem rise_uniq {α : Type} {R : α → α → Prop} (anti : ∀ a b, R a b → R b a → a = b) : ∀ {l m : List α}, l.Perm m → l.Pairwise R → m.Pairwise R → l = m
  | [], m, p, _, _ => (List.nil_perm.mp p).symm
  | a :: l, [], p, _, _ => absurd p (by simp)
  | a :: l, b :: m, p, hl, hm => by
    obtain ⟨a1, a2⟩ := List.pairwise_cons.mp hl
    obtain ⟨b1, b2⟩ := List.pairwise_cons.mp hm
    have e : a = b := by
      have ha := p.mem_iff.mp (List.mem_cons_self : a ∈ a :: l)
      have hb := p.mem_iff.mpr (List.mem_cons_self : b ∈ b :: m)
      rcases List.mem_cons.mp ha with e | ha
      · exact e
      · rcases List.mem_cons.mp hb with e | hb
        · exact e.symm
        · exact anti a b (a1 b hb) (b1 a ha)
    subst e
    rw [rise_uniq anti (List.Perm.cons_inv p) a2 b2]
theorem sortI_eq {l m : List Int} (p : l.Perm m) (h : l.Pairwise (· ≤ ·)) : l = sortI m :=
  rise_uniq (fun a b h1 h2 => Int.le_antisymm h1 h2) (p.trans (sortI_perm m).symm) h (sortI_sorted m)
/-! texts -/
theorem lt_irr : ∀ a : List Nat, ltCps a a = false
  | [] => rfl
  | x :: r => by simp [ltCps, lt_irr r]
theorem lt_tot : ∀ a b : List Nat, ltCps a b = false → ltCps b a = false → a = b
  | [], [], _, _ => rfl
  | [], _ :: _, h, _ => by simp [ltCps] at h
  | _ :: _, [], _, h => by simp [ltCps] at h
  | x :: r, y :: t, h1, h2 => by
    simp only [ltCps, Bool.or_eq_false_iff, decide_eq_false_iff_not, Bool.and_eq_false_iff, beq_eq_false_iff_ne] at h1 h2
    have e : x = y := by omega
    subst e
    rw [lt_tot r t (h1.2.resolve_left (fun z => z rfl)) (h2.2.resolve_left (fun z => z rfl))]
/-- not greater, then not greater: not greater -/
theorem le_tr : ∀ a b c : List Nat, ltCps b a = false → ltCps c b = false → ltCps c a = false
  | [], _, [], _, _ => rfl
  | [], _, _ :: _, _, _ => rfl
  | x :: r, [], _, h, _ => by simp [ltCps] at h
  | x :: r, y :: t, [], _, h => by simp [ltCps] at h
  | x :: r, y :: t, z :: w, h1, h2 => by
    simp only [ltCps, Bool.or_eq_false_iff, decide_eq_false_iff_not, Bool.and_eq_false_iff, beq_eq_false_iff_ne] at h1 h2 ⊢
    refine ⟨by omega, ?_⟩
    by_cases e : z = x
    · right
      have e1 : y = x := by omega
      have e2 : z = y := by omega
      exact le_tr r t w (h1.2.resolve_left fun q => q e1) (h2.2.resolve_left fun q => q e2)
    · exact .inl e
def LeS (a b : Str) : Prop := ltCps b.cps.toList a.cps.toList = false
theorem LeS.anti (a b : Str) (h1 : LeS a b) (h2 : LeS b a) : a = b := by
  have e := Array.toList_inj.mp (lt_tot _ _ h2 h1)
  cases a
  cases b
  simpa using e
theorem LeS.tr {a b c : Str} (h1 : LeS a b) (h2 : LeS b c) : LeS a c := le_tr _ _ _ h1 h2
theorem sorted_pw : ∀ {l : List Str}, sortedS l = true → l.Pairwise LeS := by
  have key : ∀ (l : List Str) (p : Str), risingS p l = true → (p :: l).Pairwise LeS := by
    intro l
    induction l with
    | nil => intro p _; simp
    | cons x r ih =>
      intro p h
      simp only [risingS, Bool.and_eq_true, Bool.not_eq_true'] at h
      have q := ih x h.2
      refine List.pairwise_cons.mpr ⟨fun y hy => ?_, q⟩
      rcases List.mem_cons.mp hy with rfl | hy
      · exact h.1
      · exact LeS.tr h.1 ((List.pairwise_cons.mp q).1 y hy)
  intro l h
  cases l with
  | nil => exact .nil
  | cons x r => exact key r x h
theorem leS_iff {a b : Str} : leS a b = true ↔ LeS a b := by
  unfold leS LeS
  simp
theorem lt_as : ∀ a b : List Nat, ltCps a b = true → ltCps b a = false
  | [], [], h => by simp [ltCps] at h
  | [], _ :: _, _ => rfl
  | _ :: _, [], h => by simp [ltCps] at h
  | x :: r, y :: t, h => by
    simp only [ltCps, Bool.or_eq_true, decide_eq_true_eq, Bool.and_eq_true, beq_iff_eq] at h
    simp only [ltCps, Bool.or_eq_false_iff, decide_eq_false_iff_not, Bool.and_eq_false_iff, beq_eq_false_iff_ne]
    rcases h with h | ⟨h1, h2⟩
    · exact ⟨by omega, .inl (by omega)⟩
    · exact ⟨by omega, .inr (lt_as r t h2)⟩
theorem LeS.tot (a b : Str) (h : leS a b = false) : LeS b a := by
  unfold leS at h
  exact lt_as _ _ (by simpa using h)
theorem insS_perm (i : Str) : ∀ l : List Str, (insS i l).Perm (i :: l)
  | [] => .refl _
  | j :: r => by
    rw [insS]
    split
    · exact .refl _
    · exact ((insS_perm i r).cons j).trans (List.Perm.swap i j r)
theorem sortS_perm : ∀ l : List Str, (sortS l).Perm l
  | [] => .refl _
  | i :: r => (insS_perm i _).trans ((sortS_perm r).cons i)
theorem insS_sorted (i : Str) : ∀ l : List Str, l.Pairwise LeS → (insS i l).Pairwise LeS
  | [], _ => by simp [insS]
  | j :: r, h => by
    rw [insS]
    obtain ⟨h1, h2⟩ := List.pairwise_cons.mp h
    split
    · rename_i hij
      have hij := leS_iff.mp hij
      refine List.pairwise_cons.mpr ⟨fun y hy => ?_, h⟩
      rcases List.mem_cons.mp hy with rfl | hy
      · exact hij
      · exact hij.tr (h1 y hy)
    · rename_i hij
      refine List.pairwise_cons.mpr ⟨fun y hy => ?_, insS_sorted i r h2⟩
      rcases List.mem_cons.mp ((insS_perm i r).mem_iff.mp hy) with rfl | hy
      · exact LeS.tot y j (by simpa using hij)
      · exact h1 y hy
theorem sortS_sorted : ∀ l : List Str, (sortS l).Pairwise LeS
  | [] => .nil
  | i :: r => insS_sorted i _ (sortS_sorted r)
theorem sortS_eq {l m : List Str} (p : l.Perm m) (h : sortedS l = true) : l = sortS m :=
  rise_uniq LeS.anti (p.trans (sortS_perm m).symm) (sorted_pw h) (sortS_sorted m)
theorem dedI_mem {i : Int} : ∀ {l : List Int}, i ∈ dedI l ↔ i ∈ l
  | [] => Iff.rfl
  | j :: r => by
    rw [dedI]
    split
    · rename_i h
      have h : j ∈ r := dedI_mem.mp (by simpa using h)
      rw [dedI_mem, List.mem_cons]
      exact ⟨.inr, fun q => q.elim (fun e => by rw [e]; exact h) id⟩
    · rw [List.mem_cons, List.mem_cons, dedI_mem]
theorem dedI_nodup : ∀ l : List Int, (dedI l).Nodup
  | [] => .nil
  | j :: r => by
    rw [dedI]
    split
    · exact dedI_nodup r
    · rename_i h
      exact List.nodup_cons.mpr ⟨by simpa using h, dedI_nodup r⟩
end Ev

/-! Dicts as keys beside values. -/
namespace Ev
open PySem PySem.Spec PyProof.Rows L2 LamX
section
variable {f : Fx} {X : Cx} {C : Addr}
/-! ### a dict's keys and values with another one -/
theorem hasK_any {j : L2.Key} : ∀ {ks : List L2.Key} {vs : List V}, ks.length = vs.length → ((ks.zip vs).any fun kv => decide (kv.1 = j)) = hasK ks j
  | [], _, _ => rfl
  | _ :: _, [], h => by simp at h
  | k :: ks, v :: vs, h => by
    unfold hasK
    rw [List.zip_cons_cons, List.any_cons, List.any_cons, hasK_any (by simpa using h)]
    rfl
theorem swapD_zip {j : L2.Key} {y : V} : ∀ {ks : List L2.Key} {vs : List V}, ks.length = vs.length → ((ks.zip vs).map fun kv => if kv.1 = j then (kv.1, y) else kv) = ks.zip (swapD j y ks vs)
  | [], _, _ => by simp
  | _ :: _, [], h => by simp at h
  | k :: ks, v :: vs, h => by
    rw [List.zip_cons_cons, List.map_cons, swapD_zip (by simpa using h), swapD, List.zip_cons_cons]
    by_cases e : k = j
    · simp [e]
    · simp [e]
theorem swapD_len {α : Type} {j : L2.Key} {y : α} : ∀ {ks : List L2.Key} {xs : List α}, ks.length = xs.length → (swapD j y ks xs).length = xs.length
  | [], [], _ => rfl
  | [], _ :: _, h => by simp at h
  | _ :: _, [], h => by simp at h
  | k :: ks, x :: xs, h => by
    rw [swapD, List.length_cons, List.length_cons, swapD_len (by simpa using h)]
theorem put_len {α : Type} {ks : List L2.Key} {xs : List α} {j : L2.Key} {y : α} (h : ks.length = xs.length) : (putKs ks j).length = (putDs ks xs j y).length := by
  unfold putKs putDs
  split
  · rw [swapD_len h]
    exact h
  · simp [h]
theorem putK_zip {ks : List L2.Key} {vs : List V} {j : L2.Key} {y : V} (h : ks.length = vs.length) : putK (ks.zip vs) j y = (putKs ks j).zip (putDs ks vs j y) := by
  unfold putK putKs putDs
  rw [hasK_any h]
  split
  · exact swapD_zip h
  · rw [List.zip_append h]
    rfl
theorem Rps.swap {H : Hp} {A : Addr → Prop} {j : L2.Key} {y : D} {w : V} (r : Rp (gx X f) C H A y w) : ∀ {ks : List L2.Key} {ds : List D} {vs : List V}, Rps (gx X f) C H A ds vs → Rps (gx X f) C H A (swapD j y ks ds) (swapD j w ks vs)
  | [], _, _, _ => rfl
  | _ :: _, [], vs, h => by
    have e : vs = [] := h
    subst e
    rfl
  | k :: ks, d :: ds, vs, h => by
    obtain ⟨v, r', rfl, h1, h2⟩ := h
    refine ⟨_, _, rfl, ?_, Rps.swap r h2⟩
    by_cases e : k = j
    · rw [if_pos e, if_pos e]
      exact r
    · rw [if_neg e, if_neg e]
      exact h1
theorem Rps.put {H : Hp} {A : Addr → Prop} {ks : List L2.Key} {j : L2.Key} {y : D} {w : V} {ds : List D} {vs : List V} (r : Rp (gx X f) C H A y w) (h : Rps (gx X f) C H A ds vs) : Rps (gx X f) C H A (putDs ks ds j y) (putDs ks vs j w) := by
  unfold putDs
  split
  · exact Rps.swap r h
  · exact h.app (Rps.one r)
theorem Rps.merge {H : Hp} {A : Addr → Prop} : ∀ {js ks : List L2.Key} {ds es : List D} {vs ws : List V}, ks.length = vs.length → js.length = ws.length → Rps (gx X f) C H A ds vs → Rps (gx X f) C H A es ws →
    (mergeD ks ds js es).1 = (mergeD ks vs js ws).1 ∧ (mergeD ks vs js ws).1.length = (mergeD ks vs js ws).2.length ∧ Rps (gx X f) C H A (mergeD ks ds js es).2 (mergeD ks vs js ws).2 ∧ mergeK (ks.zip vs) (js.zip ws) = (mergeD ks vs js ws).1.zip (mergeD ks vs js ws).2
  | [], ks, ds, es, vs, ws, hl, h2, r, q => by
    have e : ws = [] := List.length_eq_zero_iff.mp h2.symm
    subst e
    refine ⟨?_, hl, ?_, rfl⟩
    · cases es <;> rfl
    · cases es <;> exact r
  | j :: js, ks, ds, [], vs, ws, hl, h2, r, q => by
    have e : ws = [] := q
    subst e
    simp at h2
  | j :: js, ks, ds, e :: es, vs, ws, hl, h2, r, q => by
    obtain ⟨w, wr, rfl, q1, q2⟩ := q
    obtain ⟨a1, a2, a3, a4⟩ := Rps.merge (js := js) (ks := putKs ks j) (vs := putDs ks vs j w) (put_len hl) (by simpa using h2) (Rps.put (ks := ks) (j := j) q1 r) q2
    refine ⟨a1, a2, a3, ?_⟩
    rw [← putK_zip hl] at a4
    exact a4
/-- the pairs that dict(..) gets -/
theorem pairsK_rp {H : Hp} {A : Addr → Prop} : ∀ {ds : List D} {vs : List V} {js : List L2.Key} {ys : List D}, Rps (gx X f) C H A ds vs → pairsK ds = some (js, ys) →
    ∃ (ps : List Addr) (ws : List V), vs = ps.map V.ref ∧ Paired (fun p kv => SqT X.K H p [kV kv.1, kv.2]) ps (js.zip ws) ∧ js.length = ws.length ∧ Rps (gx X f) C H A ys ws
  | [], vs, js, ys, h, e => by
    cases e
    exact ⟨[], [], h, .nil, rfl, rfl⟩
  | d :: r, vs, js, ys, h, e => by
    obtain ⟨v, vr, rfl, h1, h2⟩ := h
    unfold pairsK at e
    split at e
    · rename_i q1; cases q1
    · rename_i k y r' q1
      cases q1
      split at e
      · rename_i j js' ys' e1 e2
        cases e
        obtain ⟨ps, ws, a1, a2, a3, a4⟩ := pairsK_rp h2 e2
        obtain ⟨a, us, rfl, t1, t2⟩ := h1
        obtain ⟨u1, ur, rfl, k1, k2⟩ := t2
        obtain ⟨u2, ur2, rfl, k3, k4⟩ := k2
        have k4 : ur2 = [] := k4
        subst k4
        have eu := k1.key e1
        subst eu
        exact ⟨a :: ps, u2 :: ws, by rw [a1]; rfl, .cons t1 a2, by simp [a3], u2, ws, rfl, k3, a4⟩
      · cases e
    · cases e
end
end Ev

/-! Built-in functions, isinstance. -/
namespace Ev
open PySem PySem.Spec PyProof.Rows L2 LamX
section
variable {p : PC} {f : Fx} {wd : Words} {nw : Str} {pr : List FD} {n : Nat} {X : Cx} {m : MC} {C : Addr} {W : WX} {call : Nat → List D → Cup → Re D}

def rSrtD : List V → Hp → VK → Prop := fun xs H Q => ∃ (a : Addr) (kvs : List (L2.Key × V)) (ks : List Str), xs = [.ref a] ∧ Rd H a (.dK kvs) ∧ kvs.map (·.1) = ks.map Sum.inr ∧ ks.length < 64 ∧ ∀ ys p, ys.Perm ks → sortedS ys = true → H p = none → Q (.ref p) (upd H p (.lst (ys.map V.str)))
def rSrtDI : List V → Hp → VK → Prop := fun xs H Q => ∃ (a : Addr) (kvs : List (L2.Key × V)) (ks : List Int), xs = [.ref a] ∧ Rd H a (.dK kvs) ∧ kvs.map (·.1) = ks.map Sum.inl ∧ ks.length < 64 ∧ ∀ (ys : List Int) (p : Addr), ys.Perm ks → ys.Pairwise (· ≤ ·) → H p = none → Q (.ref p) (upd H p (.lst (ys.map V.int)))
def rDictP (K : PySem.W.Frag) : List V → Hp → VK → Prop := fun xs H Q => ∃ (a : Addr) (ps : List Addr) (kvs : List (L2.Key × V)), xs = [.ref a] ∧ SqL K H a (ps.map V.ref) ∧ Paired (fun p kv => SqT K H p [kV kv.1, kv.2]) ps kvs ∧ ∀ p, H p = none → Q (.ref p) (upd H p (.dK (mergeK [] kvs)))
def rBi (K : PySem.W.Frag) : Bi → List V → Hp → VK → Prop
  | .len => fun xs H Q => (∃ p ys, xs = [.ref p] ∧ (SqL K H p ys ∨ SqT K H p ys) ∧ Q (.int ys.length) H) ∨ ∃ z, xs = [.str z] ∧ z.length ≤ sizeLine ∧ Q (.int z.length) H
  | .abs => fun xs H Q => ∃ i, xs = [.int i] ∧ Q (.int (if i < 0 then -i else i)) H
  | .int => fun xs H Q => (∃ i, xs = [.int i] ∧ Q (.int i) H) ∨ ∃ k, xs = [.bl k] ∧ Q (.int (if k then 1 else 0)) H
  | .tuple => fun xs H Q => ∃ p ys, xs = [.ref p] ∧ ((SqL K H p ys ∧ ∀ l, H l = none → Q (.ref l) (upd H l (.tup ys))) ∨ (SqT K H p ys ∧ Q (.ref p) H))
  | .list => fun xs H Q => ∃ p ys, xs = [.ref p] ∧ (SqL K H p ys ∨ SqT K H p ys) ∧ ∀ l, H l = none → Q (.ref l) (upd H l (.lst ys))
  | .all => rAll K
  | .any => rAny K
  | .sum => rSum K
  | .gcd => rGcd
  | .max => EvWk.rMaxI K
  | .min => EvWk.rMinI K
  | .sorted => fun xs H Q => rSortedI K xs H Q ∨ rSortedS K xs H Q ∨ rSrtD xs H Q ∨ rSrtDI xs H Q
  | .dict => rDictP K
  | .str => fun xs H Q => ∃ i, xs = [.int i] ∧ i.natAbs.log2 < 1920 ∧ Q (.str (toString i)) H
theorem pe_biR (h : XOk p f wd nw pr n X m) {b : Bi} (hb : m.hot = false ∨ b = .str) {x : Str} {e : Expr} {es : List Expr} {q pos : Pos} {t : TA} (hn : x = b.name) (hg : Ev.glb m.sc x = true) (hm : b = .gcd ∨ X.mg x = none) (ha : PA X (e :: es) t)
    (he : starEach (e :: es) X.env = (false, eval e X.env) :: starEach es X.env) (hpl : (backTo pos (starEach es X.env)).any (·.1) = false) : PE X (.Call (.Name x q) (e :: es) [] pos) (tCB (rBi X.K b) t) := by
  have hG := h.glb hg
  subst hn
  have hh : b = .str ∨ m.hot = false := hb.symm
  cases b with
  | max =>
    have hh := hh.resolve_left (by decide)
    exact pe_callB (EvWk.cr_maxI (h.calm hh) (h.room hh).units) hG (hm.resolve_left (by decide)) (by decide +kernel) ha (by decide) (by decide) he hpl
  | min =>
    have hh := hh.resolve_left (by decide)
    exact pe_callB (EvWk.cr_minI (h.calm hh) (h.room hh).units) hG (hm.resolve_left (by decide)) (by decide +kernel) ha (by decide) (by decide) he hpl
  | sorted =>
    have hh := hh.resolve_left (by decide)
    exact pe_callB (cr_sortedI.or (cr_sortedS.or ((call_sortedD (h.calm hh)).or (call_sortedDI (h.calm hh))))) hG (hm.resolve_left (by decide)) (by decide +kernel) ha (by decide) (by decide) he hpl
  | dict =>
    have hh := hh.resolve_left (by decide)
    exact pe_callTy (call_dictP (h.calm hh)) hG (hm.resolve_left (by decide)) (by decide +kernel) ha (by decide) (by decide) he hpl
  | str => exact pe_callTy call_str_int hG (hm.resolve_left (by decide)) (by decide +kernel) ha (by decide) (by decide) he hpl
  | gcd => exact pe_callBfun cr_gcd hG h.gcd ha (by decide) he hpl
  | len => exact pe_callB (call_len_seq.or call_len_str) hG (hm.resolve_left (by decide)) PySem.boot_len ha (by decide) (by decide) he hpl
  | abs => exact pe_callB call_abs hG (hm.resolve_left (by decide)) (by decide +kernel) ha (by decide) (by decide) he hpl
  | int => exact pe_callTy call_int1 hG (hm.resolve_left (by decide)) (by decide +kernel) ha (by decide) (by decide) he hpl
  | tuple => exact pe_callTy call_tuple_of hG (hm.resolve_left (by decide)) (by decide +kernel) ha (by decide) (by decide) he hpl
  | list => exact pe_callTy call_list_of hG (hm.resolve_left (by decide)) boot_list ha (by decide) (by decide) he hpl
  | all => exact pe_callB (cr_all (h.calm (hh.resolve_left (by decide)))) hG (hm.resolve_left (by decide)) (by decide +kernel) ha (by decide) (by decide) he hpl
  | any => exact pe_callB (cr_any (h.calm (hh.resolve_left (by decide)))) hG (hm.resolve_left (by decide)) (by decide +kernel) ha (by decide) (by decide) he hpl
  | sum => exact pe_callB (cr_sum (h.calm (hh.resolve_left (by decide)))) hG (hm.resolve_left (by decide)) (by decide +kernel) ha (by decide) (by decide) he hpl
theorem Rps.ints {g : G} {H : Hp} {A : Addr → Prop} : ∀ {ns : List Int}, Rps g C H A (ns.map .int) (ns.map V.int)
  | [] => rfl
  | n :: ns => ⟨_, _, rfl, rfl, Rps.ints⟩
theorem Rps.strs {g : G} {H : Hp} {A : Addr → Prop} : ∀ {ns : List Str}, Rps g C H A (ns.map .str) (ns.map V.str)
  | [] => rfl
  | n :: ns => ⟨_, _, rfl, rfl, Rps.strs⟩
theorem keysI_eq : ∀ {ks : List L2.Key} {ns : List Int}, keysI ks = some ns → ks = ns.map Sum.inl
  | [], ns, e => by
    cases e
    rfl
  | .inl i :: r, ns, e => by
    rw [keysI] at e
    split at e
    · rename_i is e1
      cases e
      rw [keysI_eq e1]
      rfl
    · cases e
  | .inr _ :: _, ns, e => by simp [keysI] at e
theorem keysS_eq : ∀ {ks : List L2.Key} {ns : List Str}, keysS ks = some ns → ks = ns.map Sum.inr
  | [], ns, e => by
    cases e
    rfl
  | .inr i :: r, ns, e => by
    rw [keysS] at e
    split at e
    · rename_i is e1
      cases e
      rw [keysS_eq e1]
      rfl
    · cases e
  | .inl _ :: _, ns, e => by simp [keysS] at e
theorem keysI_len {ks : List L2.Key} {ns : List Int} (e : keysI ks = some ns) : ks.length = ns.length := by rw [keysI_eq e, List.length_map]
theorem keysS_len {ks : List L2.Key} {ns : List Str} (e : keysS ks = some ns) : ks.length = ns.length := by rw [keysS_eq e, List.length_map]
theorem newI {H H2 : Hp} {A : Addr → Prop} {u : Cup} {fr : Bool} {ns : List Int} {q : Addr} (hE : Ext C H H2) (hW : Wd (gx X f) C H2 u) (nq : H2 q = none) : Post (gx X f) C H A fr (.lst (ns.map .int)) u (.ref q) (upd H2 q (.lst (ns.map V.int))) := by
  refine ⟨hE.trans (hW.newX nq), hW.newW nq, ⟨q, _, rfl, upd_same, .inr (hE.free q (NL.of nq)), (ne_of_none hW.cup nq).symm, ?_⟩, fun _ _ p e => ?_⟩
  · exact Rps.ints
  · cases e
    exact hE.free q (NL.of nq)
theorem newS {H H2 : Hp} {A : Addr → Prop} {u : Cup} {fr : Bool} {ns : List Str} {q : Addr} (hE : Ext C H H2) (hW : Wd (gx X f) C H2 u) (nq : H2 q = none) : Post (gx X f) C H A fr (.lst (ns.map .str)) u (.ref q) (upd H2 q (.lst (ns.map V.str))) := by
  refine ⟨hE.trans (hW.newX nq), hW.newW nq, ⟨q, _, rfl, upd_same, .inr (hE.free q (NL.of nq)), (ne_of_none hW.cup nq).symm, Rps.strs⟩, fun _ _ p e => ?_⟩
  cases e
  exact hE.free q (NL.of nq)
theorem newD {H H2 : Hp} {A : Addr → Prop} {u : Cup} {fr : Bool} {js : List L2.Key} {ys : List D} {ws : List V} {q : Addr} (hE : Ext C H H2) (hW : Wd (gx X f) C H2 u) (nq : H2 q = none) (hl : js.length = ws.length) (hr : Rps (gx X f) C H2 (fun a => A a ∨ NL H a) ys ws) :
    Post (gx X f) C H A fr (.dic (mergeD [] [] js ys).1 (mergeD [] [] js ys).2) u (.ref q) (upd H2 q (.dK (mergeK [] (js.zip ws)))) := by
  obtain ⟨a1, a2, a3, a4⟩ := Rps.merge (f := f) (X := X) (C := C) (H := H2) (A := fun a => A a ∨ NL H a) (js := js) (ks := []) (ds := []) (vs := []) rfl hl rfl hr
  have a4 : mergeK [] (js.zip ws) = _ := a4
  rw [a4]
  refine ⟨hE.trans (hW.newX nq), hW.newW nq, ⟨q, _, rfl, by rw [a1]; exact upd_same, .inr (hE.free q (NL.of nq)), (ne_of_none hW.cup nq).symm, by rw [a1]; exact a2, (hW.newX nq).rps a3⟩, fun _ _ p e => ?_⟩
  cases e
  exact hE.free q (NL.of nq)
theorem val_bi {b : Bi} {xs : List D} {d : D} {vs : List V} {H H2 : Hp} {A : Addr → Prop} {u : Cup} {Q : VK} {fr : Bool} (e : biV b xs = some d) (hx : Rps (gx X f) C H2 (fun a => A a ∨ NL H a) xs vs)
    (hE : Ext C H H2) (hW : Wd (gx X f) C H2 u) (h : ∀ v' H', Post (gx X f) C H A fr d u v' H' → Q v' H') : rBi X.K b vs H2 Q := by
  have fi : ∀ z : Int, d = .int z → Q (.int z) H2 := fun z ez => h _ _ ⟨hE, hW, by rw [ez]; rfl, fun _ z => by rw [ez] at z; cases z⟩
  have fb : ∀ z : Bool, d = .bl z → Q (.bl z) H2 := fun z ez => h _ _ ⟨hE, hW, by rw [ez]; rfl, fun _ z => by rw [ez] at z; cases z⟩
  unfold biV at e
  split at e
  · cases e
    obtain ⟨v, r, rfl, ⟨a, ws, rfl, h1, h2⟩, h3⟩ := hx
    cases h3
    exact .inl ⟨a, ws, rfl, .inr h1, by rw [← h2.length]; exact fi _ rfl⟩
  · cases e
    obtain ⟨v, r, rfl, ⟨a, ws, rfl, h1, _, _, h2⟩, h3⟩ := hx
    cases h3
    exact .inl ⟨a, ws, rfl, .inl (SqL.of h1), by rw [← h2.length]; exact fi _ rfl⟩
  · split at e
    · rename_i hz
      cases e
      obtain ⟨v, r, rfl, h1, h3⟩ := hx
      cases h1; cases h3
      exact .inr ⟨_, rfl, Nat.le_trans hz big_le, fi _ rfl⟩
    · cases e
  · cases e
    obtain ⟨v, r, rfl, h1, h3⟩ := hx
    cases h1; cases h3
    exact ⟨_, rfl, fi _ rfl⟩
  · cases e
    obtain ⟨v, r, rfl, h1, h3⟩ := hx
    cases h1; cases h3
    exact .inl ⟨_, rfl, fi _ rfl⟩
  · cases e
    obtain ⟨v, r, rfl, ⟨a, ws, rfl, h1, h2⟩, h3⟩ := hx
    cases h3
    exact ⟨a, ws, rfl, .inr ⟨h1, h _ _ ⟨hE, hW, ⟨a, ws, rfl, h1, h2⟩, fun _ z => by cases z⟩⟩⟩
  · cases e
    obtain ⟨v, r, rfl, ⟨a, ws, rfl, h1, _, _, h2⟩, h3⟩ := hx
    cases h3
    exact ⟨a, ws, rfl, .inl ⟨SqL.of h1, fun l nl => h _ _ ⟨hE.trans (hW.newX nl), hW.newW nl, ⟨l, ws, rfl, SqT.of upd_same, (hW.newX nl).rps h2⟩, fun _ z => by cases z⟩⟩⟩
  · cases e
    obtain ⟨v, r, rfl, ⟨a, ws, rfl, h1, h2⟩, h3⟩ := hx
    cases h3
    refine ⟨a, ws, rfl, .inr h1, fun l nl => h _ _ ⟨hE.trans (hW.newX nl), hW.newW nl, ⟨l, ws, rfl, upd_same, .inr (hE.free l (NL.of nl)), (ne_of_none hW.cup nl).symm, (hW.newX nl).rps h2⟩, fun _ _ p e => ?_⟩⟩
    cases e
    exact hE.free l (NL.of nl)
  · cases e
    obtain ⟨v, r, rfl, ⟨a, ws, rfl, h1, _, _, h2⟩, h3⟩ := hx
    cases h3
    refine ⟨a, ws, rfl, .inl (SqL.of h1), fun l nl => h _ _ ⟨hE.trans (hW.newX nl), hW.newW nl, ⟨l, ws, rfl, upd_same, .inr (hE.free l (NL.of nl)), (ne_of_none hW.cup nl).symm, (hW.newX nl).rps h2⟩, fun _ _ p e => ?_⟩⟩
    cases e
    exact hE.free l (NL.of nl)
  · obtain ⟨bs, e1, e2⟩ := Option.map_eq_some_iff.mp e
    obtain ⟨v, r, rfl, ⟨a, ws, rfl, h1, _, _, h2⟩, h3⟩ := hx
    cases h3
    exact ⟨a, bs, rfl, SqL.of (by rw [← h2.bls e1]; exact h1), fb _ e2.symm⟩
  · obtain ⟨bs, e1, e2⟩ := Option.map_eq_some_iff.mp e
    obtain ⟨v, r, rfl, ⟨a, ws, rfl, h1, _, _, h2⟩, h3⟩ := hx
    cases h3
    exact ⟨a, bs, rfl, SqL.of (by rw [← h2.bls e1]; exact h1), fb _ e2.symm⟩
  · obtain ⟨bs, e1, e2⟩ := Option.map_eq_some_iff.mp e
    obtain ⟨v, r, rfl, ⟨a, ws, rfl, h1, _, _, h2⟩, h3⟩ := hx
    cases h3
    exact ⟨a, bs, rfl, SqL.of (by rw [← h2.allI e1]; exact h1), fi _ e2.symm⟩
  · cases e
    obtain ⟨v, r, rfl, h1, v2, r2, rfl, h2, h3⟩ := hx
    cases h1; cases h2; cases h3
    exact ⟨_, _, rfl, fi _ rfl⟩
  · obtain ⟨v, r, rfl, ⟨a, ws, rfl, h1, _, _, h2⟩, h3⟩ := hx
    cases h3
    split at e
    · rename_i i is e1
      cases e
      exact ⟨true, a, i, is, rfl, show SqL X.K H2 a _ from SqL.of (by rw [← h2.allI e1]; exact h1), fi _ rfl⟩
    · cases e
  · obtain ⟨v, r, rfl, ⟨a, ws, rfl, h1, h2⟩, h3⟩ := hx
    cases h3
    split at e
    · rename_i i is e1
      cases e
      exact ⟨false, a, i, is, rfl, show SqT X.K H2 a _ by rw [← h2.allI e1]; exact h1, fi _ rfl⟩
    · cases e
  · obtain ⟨v, r, rfl, ⟨a, ws, rfl, h1, _, _, h2⟩, h3⟩ := hx
    cases h3
    split at e
    · rename_i i is e1
      cases e
      exact ⟨true, a, i, is, rfl, show SqL X.K H2 a _ from SqL.of (by rw [← h2.allI e1]; exact h1), fi _ rfl⟩
    · cases e
  · obtain ⟨v, r, rfl, ⟨a, ws, rfl, h1, h2⟩, h3⟩ := hx
    cases h3
    split at e
    · rename_i i is e1
      cases e
      exact ⟨false, a, i, is, rfl, show SqT X.K H2 a _ by rw [← h2.allI e1]; exact h1, fi _ rfl⟩
    · cases e
  · obtain ⟨v, r, rfl, ⟨a, ws, rfl, h1, _, _, h2⟩, h3⟩ := hx
    cases h3
    unfold sortL at e
    split at e
    · rename_i ns e1
      cases e
      refine .inl ⟨a, ns, rfl, SqL.of (by rw [← h2.allI e1]; exact h1), fun ns' q p1 p2 nq => ?_⟩
      rw [sortI_eq p1 p2]
      exact h _ _ (newI hE hW nq)
    · split at e
      · rename_i ss e1
        split at e
        · rename_i hz
          cases e
          refine .inr (.inl ⟨a, ss, rfl, SqL.of (by rw [← h2.stl e1]; exact h1), hz, fun ns' q p1 p2 nq => ?_⟩)
          rw [sortS_eq p1 p2]
          exact h _ _ (newS hE hW nq)
        · cases e
      · cases e
  · obtain ⟨v, r, rfl, ⟨a, ws, rfl, h1, _, _, h3, h2⟩, h4⟩ := hx
    cases h4
    have km : ∀ ks : List L2.Key, ks.length = ws.length → (ks.zip ws).map (·.1) = ks := fun ks l => List.map_fst_zip (Nat.le_of_eq l)
    unfold sortK at e
    split at e
    · rename_i hz
      split at e
      · rename_i ns e1
        cases e
        refine .inr (.inr (.inr ⟨a, _, ns, rfl, .inl h1, by rw [km _ h3, keysI_eq e1], by rw [← keysI_len e1]; exact hz, fun ns' q p1 p2 nq => ?_⟩))
        rw [sortI_eq p1 p2]
        exact h _ _ (newI hE hW nq)
      · split at e
        · rename_i ss e1
          cases e
          refine .inr (.inr (.inl ⟨a, _, ss, rfl, .inl h1, by rw [km _ h3, keysS_eq e1], by rw [← keysS_len e1]; exact hz, fun ns' q p1 p2 nq => ?_⟩))
          rw [sortS_eq p1 p2]
          exact h _ _ (newS hE hW nq)
        · cases e
    · cases e
  · obtain ⟨v, r, rfl, ⟨a, ws, rfl, h1, _, _, h2⟩, h4⟩ := hx
    cases h4
    split at e
    · rename_i js ys e1
      cases e
      obtain ⟨ps, vs, e2, e3, e4, e5⟩ := pairsK_rp h2 e1
      refine ⟨a, ps, js.zip vs, rfl, SqL.of (by rw [← e2]; exact h1), e3, fun q nq => ?_⟩
      exact h _ _ (newD hE hW nq e4 e5)
    · cases e
  · split at e
    · rename_i hz
      cases e
      obtain ⟨v, r, rfl, h1, h3⟩ := hx
      cases h1; cases h3
      exact ⟨_, rfl, hz, h _ _ ⟨hE, hW, rfl, fun _ z => by cases z⟩⟩
    · cases e
  · cases e
theorem pe_bi' (h : XOk p f wd nw pr n X m) {b : Bi} (hh : m.hot = false ∨ b = .str) {es : List Ex} {x : Str} {xs : List Expr} {q pos : Pos} (hn : x = b.name) (hg : Ev.glb m.sc x = true) (hm : b = .gcd ∨ X.mg x = none) (ha : PA X xs (tL (gx X f) C wd nw call W es)) (hl : mL p m es xs = true) (hne : xs ≠ []) :
    PE X (.Call (.Name x q) xs [] pos) (tE (gx X f) C wd nw call W (.bi b es)) := by
  cases xs with
  | nil => exact absurd rfl hne
  | cons y ys =>
    cases es with
    | nil => cases hl
    | cons e es =>
      have hl' := hl
      simp only [mL, Bool.and_eq_true] at hl'
      refine peImp (pe_biR h hh hn hg hm ha (star_of (mE_starless hl'.1.2)) (mL_stars hl'.2)) fun σ H Q q => ?_
      obtain ⟨env, u, A, rel, w, o⟩ := q
      rw [evE] at o
      refine ⟨env, u, A, rel, w, o.bind.imp fun ds u1 o1 vs H1 po => ?_⟩
      cases e : biV b ds with
      | none =>
        rw [e] at o1
        exact o1.elim
      | some d =>
        rw [e] at o1
        exact val_bi e po.rp po.ext po.wd o1

/-! ### isinstance -/
theorem ty_sq {K : PySem.W.Frag} {H : Hp} {a : Addr} {vs : List V} (h : SqT K H a vs) : TyX K H (.ref a) (.type "tuple") := by
  rcases h with (h | ⟨o, h⟩) | ⟨o, its, n, h1, h2, _⟩
  · exact .base (.tup h)
  · exact .fTuple h
  · exact .kTuple h1 h2
theorem isi_ty {t : Ty} {d : D} {b : Bool} {v : V} {H : Hp} {A : Addr → Prop} (e : isiV t d = some b) (h : Rp (gx X f) C H A d v) : ∃ ty : String, TyX X.K H v (.type ty) ∧ PySem.W.kitOne X.K (.type ty) (.type t.nm) = some b := by
  cases d with
  | non =>
    cases e; cases h
    exact ⟨"NoneType", .base .non, kit_ty (by cases t <;> decide +kernel)⟩
  | bl k =>
    cases h
    refine ⟨"bool", .base (.bl k), kit_ty ?_⟩
    cases t <;> (cases e; decide +kernel)
  | int k =>
    cases h
    refine ⟨"int", .base (.int k), kit_ty ?_⟩
    cases t <;> (cases e; decide +kernel)
  | str k =>
    cases h
    refine ⟨"str", .base (.str k), kit_ty ?_⟩
    cases t <;> (cases e; decide +kernel)
  | tup ds =>
    obtain ⟨a, vs, rfl, h1, h2⟩ := h
    refine ⟨"tuple", ty_sq h1, kit_ty ?_⟩
    cases t <;> (cases e; decide +kernel)
  | lst ds =>
    obtain ⟨a, vs, rfl, h1, h2⟩ := h
    refine ⟨"list", .base (.lst h1), kit_ty ?_⟩
    cases t <;> (cases e; decide +kernel)
  | fn k => cases e
  | cup => cases e
  | exc k => cases e
  | dic _ _ => cases e
theorem boot_ty (t : Ty) : bootBuiltins t.name = some (.type t.nm) := by cases t <;> decide +kernel
theorem ty_ok (t : Ty) : t.name ≠ "__name__" ∧ (t.name == ("__debug__" : Str)) = false := by cases t <;> exact ⟨by decide, by decide⟩
theorem pe_isi' (h : XOk p f wd nw pr n X m) {a : Ex} {t : Ty} {x : Expr} {q q2 pos : Pos} {fi ty : Str} (hf : fi = "isinstance") (hg : Ev.glb m.sc fi = true) (hm : X.mg fi = none) (ht : ty = t.name) (hgt : Ev.glb m.sc ty = true) (hmt : X.mg ty = none)
    (ha : PE X x (tE (gx X f) C wd nw call W a)) (hs : starless x = true) : PE X (.Call (.Name fi q) [x, .Name ty q2] [] pos) (tE (gx X f) C wd nw call W (.isi a t)) := by
  subst hf
  subst ht
  have hty : PE X (.Name t.name q2) (tC (.ty t.nm)) := pe_bltn (h.glb hgt) hmt (boot_ty t) rfl (ty_ok t).1 (ty_ok t).2
  refine peImp (pe_callB call_isi (h.glb hg) hm boot_isinstance (pa_cons ha (pa_cons hty pa_nil) (star_of hs)) (by decide) (by decide) (star_of hs) rfl) fun σ H Q q => ?_
  obtain ⟨env, u, A, rel, w, o⟩ := q
  rw [evE] at o
  refine ⟨env, u, A, rel, w, o.bind.imp fun d u1 o1 v H1 po => ?_⟩
  cases e : isiV t d with
  | none =>
    rw [e] at o1
    exact o1.elim
  | some b =>
    rw [e] at o1
    obtain ⟨tn, h1, h2⟩ := isi_ty e po.rp
    exact ⟨v, .ty t.nm, .type tn, .type t.nm, b, rfl, .ty _, h1, h2, o1 _ _ ⟨po.ext, po.wd, rfl, fun z => by cases z⟩⟩

/-! ### isinstance of the exception that is handled; join -/
theorem mem_of_lk {j : Nat} {b : Bool} : ∀ {t : List (Nat × Bool)}, t.lookup j = some b → (j, b) ∈ t
  | [], h => by cases h
  | (k, c) :: t, h => by
    rw [List.lookup_cons] at h
    split at h
    · rename_i e
      cases h
      rw [beq_iff_eq] at e
      rw [e]
      exact List.mem_cons_self
    · exact List.mem_cons_of_mem _ (mem_of_lk h)
theorem pe_isE' (h : XOk p f wd nw pr n X m) (hh : m.hot = true) (her : m.er = true) {i k : Nat} {t : List (Nat × Bool)} {fi x c : Str} {q q1 q2 pos : Pos} (hf : fi = "isinstance") (hg : Ev.glb m.sc fi = true) (hm : X.mg fi = none) (hN : m.N[i]? = some x) (hv : Ev.vis m.sc x = true) (ho : okN x = true)
    (hc : p.cn[k]? = some c) (hgc : Ev.glb m.sc c = true) (hoc : okN c = true) (ht : (t.all fun q => decide (p.sb q.1 k = some q.2)) = true) :
    PE X (.Call (.Name fi q) [.Name x q1, .Name c q2] [] pos) (tE (gx X f) C wd nw call W (.isE i t k)) := by
  subst hf
  obtain ⟨cr, sb, cn⟩ := h.isx hh her
  have hcl : PE X (.Name c q2) (tC (.ref (f.ca k))) := pe_glob (v := .ref (f.ca k)) (h.glb hgc) (cn k c hc) rfl (okN_of hoc).1
  have hx : PE X (.Name x q1) (tVar i) := pe_var (by rw [h.N]; exact hN) (h.vis hv) (okN_of ho).1 (okN_of ho).2.1
  refine peImp (pe_callB cr (h.glb hg) hm boot_isinstance (pa_cons hx (pa_cons hcl pa_nil)) (by decide) (by decide)) fun σ H Q q => ?_
  obtain ⟨env, u, A, rel, w, o⟩ := q
  rw [evE] at o
  split at o
  · rename_i b j ei
    obtain ⟨v, h1, h2, h3⟩ := rel i (by simp [Ex.fv]) _ _ ei
    subst h2
    have h3 : j = f.xk := h3
    split at o
    · rename_i b2 e2
      refine ⟨.ref f.xa, h1, .ref (f.ca k), .ref (f.ca k), b2, rfl, fun u r => r, sb k b2 ?_, o _ _ ⟨w.refl, w, rfl, fun z => by cases z⟩⟩
      have hm := mem_of_lk e2
      have z := List.all_eq_true.mp ht _ hm
      rw [← h3]
      exact of_decide_eq_true z
    · exact o.elim
  · exact o.elim
theorem pe_join' {a b : Ex} {k : Const} {j : Nat} {p0 apos cpos : Pos} {e : Expr} (ha : PE X (.Constant k j p0) (tE (gx X f) C wd nw call W a)) (hb : PE X e (tE (gx X f) C wd nw call W b)) (hs : starless e = true) (hl : (apos.endLine == cpos.line) = true) :
    PE X (.Call (.Attribute (.Constant k j p0) "join" apos) [e] [] cpos) (tE (gx X f) C wd nw call W (.join a b)) := by
  refine peImp (pe_join ha hb (star_of hs) rfl hl) fun σ H Q q => ?_
  obtain ⟨env, u, A, rel, w, o⟩ := q
  rw [evE] at o
  have rel' : RelE (gx X f) C H A env σ (a.fv ++ b.fv) := rel
  refine ⟨env, u, A, rel'.left, w, o.bind.imp fun d u1 o1 v H1 po => ?_⟩
  cases d with
  | str s =>
    have ev : v = .str s := po.rp
    subst ev
    refine ⟨⟨s, rfl⟩, env, u1, A, rel'.right.ext po.ext, po.wd, (o1.bind.up po.ext).imp fun d2 u2 o2 w2 H2 ps => ?_⟩
    cases d2 with
    | lst ds =>
      obtain ⟨a2, vs, rfl, h1, h3, h4, h2⟩ := ps.rp
      simp only [joinV] at o2
      cases es : stl ds with
      | none =>
        rw [es] at o2
        exact o2.elim
      | some ys =>
        rw [es] at o2
        simp only at o2
        split at o2
        · rename_i hz
          have e2 := h2.stl es
          subst e2
          exact ⟨s, a2, ys, rfl, rfl, .inl (SqL.of h1), hz, o2 _ _ ⟨po.ext.trans ps.ext, ps.wd, rfl, fun z => by cases z⟩⟩
        · exact o2.elim
    | _ => exact o2.elim
  | _ => exact o1.elim
end
end Ev

/-! Targets, what is walked, comprehensions. -/
namespace Ev
open PySem PySem.Spec PyProof.Rows L2 LamX
/-- the slots of the evaluator and of the frame behind an assignment -/
structure PutR (g : G) (C : Addr) (H : Hp) (A : Addr → Prop) (is : List Nat) (env env' : En) (σ σ' : L2.St) : Prop where
  len : σ'.length = σ.length
  len2 : env'.length = env.length
  off : ∀ (i : Nat), i ∉ is → env'[i]? = env[i]? ∧ σ'[i]? = σ[i]?
  on : ∀ (i : Nat) (b : Bool) (d : D), env'[i]? = some (some (b, d)) → (env[i]? = some (some (b, d)) ∧ σ'[i]? = σ[i]?) ∨ (b = false ∧ ∃ v, σ'[i]? = some (some v) ∧ Rp g C H A d v)
theorem PutR.trans {g : G} {C : Addr} {H : Hp} {A : Addr → Prop} {is js : List Nat} {e0 e1 e2 : En} {s0 s1 s2 : L2.St} (a : PutR g C H A is e0 e1 s0 s1) (b : PutR g C H A js e1 e2 s1 s2) : PutR g C H A (is ++ js) e0 e2 s0 s2 := by
  refine ⟨b.len.trans a.len, b.len2.trans a.len2, fun i hi => ?_, fun i k d e => ?_⟩
  · rw [List.mem_append, not_or] at hi
    exact ⟨(b.off i hi.2).1.trans (a.off i hi.1).1, (b.off i hi.2).2.trans (a.off i hi.1).2⟩
  · rcases b.on i k d e with ⟨h1, h2⟩ | h
    · rcases a.on i k d h1 with ⟨k1, k2⟩ | ⟨k1, v, k2, k3⟩
      · exact .inl ⟨k1, h2.trans k2⟩
      · exact .inr ⟨k1, v, h2.trans k2, k3⟩
    · exact .inr h
theorem PutR.set {g : G} {C : Addr} {H : Hp} {A : Addr → Prop} {i : Nat} {env : En} {σ : L2.St} {d : D} {v : V} (hi : i < σ.length) (r : Rp g C H A d v) : PutR g C H A [i] env (env.set i (some (false, d))) σ (σ.set i (some v)) := by
  refine ⟨List.length_set, List.length_set, fun j hj => ?_, fun j b d' e => ?_⟩
  · have hj : i ≠ j := fun e => hj (by simp [e])
    exact ⟨List.getElem?_set_ne hj, List.getElem?_set_ne hj⟩
  · by_cases hj : i = j
    · subst hj
      by_cases hl : i < env.length
      · rw [List.getElem?_set_self hl] at e
        cases e
        exact .inr ⟨rfl, v, List.getElem?_set_self hi, r⟩
      · rw [List.getElem?_eq_none (by rw [List.length_set]; omega)] at e
        cases e
    · rw [List.getElem?_set_ne hj] at e ⊢
      exact .inl ⟨e, rfl⟩
section
variable {p : PC} {f : Fx} {wd : Words} {nw : Str} {pr : List FD} {n : Nat} {X : Cx} {m : MC} {C : Addr} {W : WX} {call : Nat → List D → Cup → Re D}
def tG (g : G) (C : Addr) (tg : Tg) : TG := fun v σ H Q => ∃ A d env env', Rp g C H A d v ∧ tg.put d env = some env' ∧ ∀ σ', PutR g C H A tg.slots env env' σ σ' → Q σ' H
def tGs (g : G) (C : Addr) (ts : List Tg) : TGs := fun vs σ H Q => ∃ A ds env env', Rps g C H A ds vs ∧ Tg.puts ts ds env = some env' ∧ ∀ σ', PutR g C H A (Tg.slotss ts) env env' σ σ' → Q σ' H
theorem pgImp {tg : Expr} {t t' : TG} (h : PG X tg t) (k : ∀ v σ H Q, σ.length = X.N.length → t' v σ H Q → t v σ H Q) : PG X tg t' := ⟨fun pins s σ H v u Q I r q => h.run pins s σ H v u Q I r (k v σ H Q I.len q)⟩
theorem pgsImp {tg : List Expr} {t t' : TGs} (h : PGs X tg t) (k : ∀ v σ H Q, σ.length = X.N.length → t' v σ H Q → t v σ H Q) : PGs X tg t' := ⟨fun pins s σ H v u Q I r q => h.run pins s σ H v u Q I r (k v σ H Q I.len q)⟩
theorem mTc_as {X : Cx} : ∀ {ts : List Tg} {es : List Expr}, mTcs m ts es = true → (assignEach es X.env).length = ts.length ∧ (assignEach es X.env).findIdx? (·.1) = none
  | [], [], _ => ⟨rfl, rfl⟩
  | [], _ :: _, h => by cases h
  | _ :: _, [], h => by cases h
  | a :: ts, e :: es, h => by
    simp only [mTcs, Bool.and_eq_true] at h
    obtain ⟨h1, h2⟩ := mTc_as (X := X) h.2
    have e1 : assignEach (e :: es) X.env = (false, assign e X.env) :: assignEach es X.env := by
      cases a <;> cases e <;> first | rfl | (have z := h.1; simp [mTc] at z)
    rw [e1]
    exact ⟨by rw [List.length_cons, List.length_cons, h1], by rw [List.findIdx?_cons]; simp [h2]⟩
theorem asg_map {a : Tg} {e : Expr} {es : List Expr} (h : mTc m a e = true) : (assignEach (e :: es) X.env).map (·.2) = assign e X.env :: (assignEach es X.env).map (·.2) := by
  have e1 : assignEach (e :: es) X.env = (false, assign e X.env) :: assignEach es X.env := by
    cases a <;> cases e <;> first | rfl | (have z := h; simp [mTc] at z)
  rw [e1]
  rfl
mutual
theorem pg_ok (hN : X.N = m.N) (nd : X.N.Nodup) (ht : X.calm = true ∨ L2H.HotC X) (hl : ∀ x, loccell m.sc x = true → Loc X.env.scope x ∧ (X.fn x = true ∨ X.env.scope.names.lookup x = some .local)) : ∀ (tg : Tg) (e : Expr), mTc m tg e = true → PG X e (tG (gx X f) C tg)
  | .n i, e, h => by
    cases e with
    | Name x pos =>
      simp only [mTc, Bool.and_eq_true, decide_eq_true_eq] at h
      obtain ⟨l1, l2⟩ := hl x h.2
      have hi : X.N[i]? = some x := by rw [hN]; exact h.1
      refine pgImp (pg_name nd hi l1 l2) fun v σ H Q len q => ?_
      obtain ⟨A, d, env, env', r, ep, k⟩ := q
      simp only [Tg.put] at ep
      cases ep
      have hi' : i < X.N.length := (List.getElem?_eq_some_iff.mp hi).1
      exact k _ (PutR.set (by omega) r)
    | _ => simp [mTc] at h
  | .t ts, e, h => by
    cases e with
    | Tuple es k pos =>
      simp only [mTc] at h
      obtain ⟨a1, a2⟩ := mTc_as (X := X) h
      have hp : PGs X es (tGs (gx X f) C ts) := pgs_ok hN nd ht hl ts es h
      refine pgImp (ht.elim (fun calm => pg_tup calm hp a1 a2) fun hot => EvHot.pg_tupH hot hp a1 a2) fun v σ H Q len q => ?_
      obtain ⟨A, d, env, env', r, ep, k⟩ := q
      cases d with
      | tup ds =>
        simp only [Tg.put] at ep
        obtain ⟨a, vs, rfl, h1, h2⟩ := r
        refine ⟨a, vs, rfl, h1, ?_, A, ds, env, env', h2, ep, fun σ' pr => k σ' pr⟩
        rw [← h2.length]
        exact puts_len ep
      | _ => simp [Tg.put] at ep
    | _ => simp [mTc] at h
theorem pgs_ok (hN : X.N = m.N) (nd : X.N.Nodup) (ht : X.calm = true ∨ L2H.HotC X) (hl : ∀ x, loccell m.sc x = true → Loc X.env.scope x ∧ (X.fn x = true ∨ X.env.scope.names.lookup x = some .local)) : ∀ (ts : List Tg) (es : List Expr), mTcs m ts es = true → PGs X es (tGs (gx X f) C ts)
  | [], es, h => by
    cases es with
    | cons _ _ => cases h
    | nil =>
      refine pgsImp pgs_nil fun vs σ H Q len q => ?_
      obtain ⟨A, ds, env, env', r, ep, k⟩ := q
      cases ds with
      | cons _ _ => simp [Tg.puts] at ep
      | nil =>
        simp only [Tg.puts] at ep
        cases ep
        have e : vs = [] := r
        exact ⟨e, k σ ⟨rfl, rfl, fun _ _ => ⟨rfl, rfl⟩, fun _ _ _ e => .inl ⟨e, rfl⟩⟩⟩
  | a :: ts, es, h => by
    cases es with
    | nil => cases h
    | cons e es =>
      simp only [mTcs, Bool.and_eq_true] at h
      refine pgsImp (pgs_cons (pg_ok hN nd ht hl a e h.1) (pgs_ok hN nd ht hl ts es h.2) (asg_map h.1)) fun vs σ H Q len q => ?_
      obtain ⟨A, ds, env, env', r, ep, k⟩ := q
      cases ds with
      | nil => simp [Tg.puts] at ep
      | cons d ds =>
        obtain ⟨v, r', rfl, r1, r2⟩ := r
        simp only [Tg.puts] at ep
        split at ep
        · rename_i env1 e1
          exact ⟨v, r', rfl, A, d, env, env1, r1, e1, fun σ1 p1 => ⟨A, ds, env1, env', r2, ep, fun σ2 p2 => k σ2 (p1.trans p2)⟩⟩
        · cases ep
theorem puts_len : ∀ {ts : List Tg} {ds : List D} {env env' : En}, Tg.puts ts ds env = some env' → ds.length = ts.length
  | [], [], _, _, _ => rfl
  | [], _ :: _, _, _, h => by simp [Tg.puts] at h
  | _ :: _, [], _, _, h => by simp [Tg.puts] at h
  | a :: ts, d :: ds, env, env', h => by
    simp only [Tg.puts] at h
    split at h
    · rw [List.length_cons, List.length_cons, puts_len h]
    · cases h
end
end
end Ev

/-! What is walked; comprehensions. -/
namespace Ev
open PySem PySem.Spec PyProof.Rows L2 LamX
section
variable {p : PC} {f : Fx} {wd : Words} {nw : Str} {pr : List FD} {n : Nat} {X : Cx} {m : MC} {C : Addr} {W : WX} {call : Nat → List D → Cup → Re D}

/-- what may change while it is walked -/
def OkB (H1 : Hp) (N B : Addr → Prop) : Prop := ∀ a, B a → IsMu H1 a ∧ ¬ N a
/-- what an iterator that has come gives -/
def Gives (g : G) (C : Addr) (H H1 : Hp) (A : Addr → Prop) (xs : List D) (J : It) : Prop := ∃ (Gd : Hp → Prop) (Y : Nat → Hp → V → Hp → Prop), Walk J xs.length Gd Y ∧ (∀ B H2, OkB H1 (fun a => A a ∨ NL H a) B → ExtB C B H1 H2 → Gd H2) ∧
  ∀ B i H2 x H3 u2, OkB H1 (fun a => A a ∨ NL H a) B → i < xs.length → ExtB C B H1 H2 → Wd g C H2 u2 → Y i H2 x H3 → ∃ d, xs[i]? = some d ∧ Ext C H2 H3 ∧ Wd g C H3 u2 ∧ Rp g C H3 (fun a => (A a ∨ NL H a) ∧ ¬ NL H1 a) d x
def tI (g : G) (C : Addr) (wd : Words) (nw : Str) (call : Nat → List D → Cup → Re D) (W : WX) (src : Ex) : TI := fun σ H R => ∃ env u A, RelE g C H A env σ src.fv ∧ Wd g C H u ∧ Out g C W σ H (evE wd nw call src env u) fun d u' => ∃ xs, d.items = some xs ∧
  ∀ J H1, Ext C H H1 → Wd g C H1 u' → Gives g C H H1 A xs J → R J H1
theorem Rp.tight {g : G} {H : Hp} {A : Addr → Prop} {d : D} {v : V} (h : Rp g C H A d v) : Rp g C H (fun a => A a ∧ ¬ NL H a) d v := Rp.move (fun _ _ x => x) (fun a o m h1 h2 _ => ⟨h1, h2, fun z => z.mu m h1⟩) d v h
theorem Rps.tight {g : G} {H : Hp} {A : Addr → Prop} {d : List D} {v : List V} (h : Rps g C H A d v) : Rps g C H (fun a => A a ∧ ¬ NL H a) d v := Rps.move (fun _ _ x => x) (fun a o m h1 h2 _ => ⟨h1, h2, fun z => z.mu m h1⟩) d v h
theorem ExtB.sqL {K : PySem.W.Frag} {B : Addr → Prop} {H H' : Hp} (x : ExtB C B H H') {a : Addr} {vs : List V} (h : H a = some (.lst vs)) (n : a ≠ C) (nb : ¬ B a) : SqL K H' a vs := SqL.of (x.keep _ _ h n nb fun ps e => by cases e)
/-- a list or a tuple that is walked -/
theorem pi_seq {tg l : Expr} {tl : TE} (hl : PE X l tl) : PI X tg l (fun σ H R => tl σ H fun x H1 => (∃ a, x = .ref a ∧ (∃ xs, SqL X.K H1 a xs) ∧ R (Itl X.K a) H1) ∨ (∃ a, x = .ref a ∧ (∃ xs, SqT X.K H1 a xs) ∧ R (Itt X.K a) H1)) := by
  refine ⟨fun pins s σ H R I h => ?_⟩
  refine thn (hl.run pins s σ H _ I h) fun v s1 ⟨x, H1, I1, r1, q1⟩ => ?_
  rcases q1 with ⟨a, e, ⟨xs, hq⟩, q⟩ | ⟨a, e, ⟨xs, hq⟩, q⟩
  · subst e
    cases r1
    obtain ⟨its, rv, p, hz⟩ := I1.list hq
    refine wpAny_pyIter_list p.isList ?_
    refine ⟨s1.heap.objs.size, [s1.heap.objs.size], _, _, H1, rfl, I1.kept (t' := s1.toks) fun b o e => Heap.get?_push_of_some _ e, turn_list a _, ⟨_, Heap.get?_push_size _ rfl, rfl, rfl⟩, fun b hb => ?_, q⟩
    have e : b = s1.heap.objs.size := by simpa using hb
    subst e
    exact I1.fpOk (Nat.le_refl _) (I1.hok.fresh (Nat.le_refl _))
  · subst e
    cases r1
    obtain ⟨its, rv, p, hz⟩ := I1.tuple hq
    refine wpAny_pyIter_tuple (show s1.heap.IsTuple a its.toArray from p) ?_
    refine ⟨s1.heap.objs.size, [s1.heap.objs.size], _, _, H1, rfl, I1.kept (t' := s1.toks) fun b o e => Heap.get?_push_of_some _ e, turn_tuple a _, ⟨_, Heap.get?_push_size _ rfl, rfl, rfl⟩, fun b hb => ?_, q⟩
    have e : b = s1.heap.objs.size := by simpa using hb
    subst e
    exact I1.fpOk (Nat.le_refl _) (I1.hok.fresh (Nat.le_refl _))
theorem piImp {tg e : Expr} {t t' : TI} (h : PI X tg e t) (k : ∀ σ H Q, t' σ H Q → t σ H Q) : PI X tg e t' := ⟨fun pins s σ H Q I q => h.run pins s σ H Q I (k σ H Q q)⟩
theorem gives_of {H H1 : Hp} {A : Addr → Prop} {ds : List D} {vs : List V} {Gd : Hp → Prop} {J : It} {u1 : Cup} (wc : Wd (gx X f) C H1 u1) (w : Walk J vs.length Gd (YAt vs)) (hG : ∀ B H2, OkB H1 (fun a => A a ∨ NL H a) B → ExtB C B H1 H2 → Gd H2) (r : Rps (gx X f) C H1 (fun a => A a ∨ NL H a) ds vs) : Gives (gx X f) C H H1 A ds J := by
  refine ⟨Gd, _, by rw [r.length]; exact w, hG, fun B i H2 x H3 u2 hB _ e w2 y => ?_⟩
  obtain ⟨y1, y2⟩ := y
  subst y1
  have hi : i < ds.length := by
    rw [r.length]
    exact (List.getElem?_eq_some_iff.mp y2).1
  obtain ⟨v, h1, h2⟩ := (r.tight).get (i := i) (d := ds[i]) (by simp [hi])
  rw [y2] at h1
  cases h1
  exact ⟨ds[i], by simp [hi], w2.refl, w2, e.rp ⟨_, wc.cup⟩ (fun a z => (hB a z).1) (fun a z k => (hB a k).2 z.1) h2⟩
theorem pi_val' {tg : Expr} {e : Ex} {x : Expr} (h : PE X x (tE (gx X f) C wd nw call W e)) : PI X tg x (tI (gx X f) C wd nw call W e) := by
  refine piImp (pi_seq h) fun σ H R q => ?_
  obtain ⟨env, u, A, rel, w, o⟩ := q
  refine ⟨env, u, A, rel, w, o.imp fun d u1 ⟨xs, ex, o1⟩ v H1 po => ?_⟩
  cases d with
  | tup ds =>
    cases ex
    obtain ⟨a, vs, rfl, h1, h2⟩ := po.rp
    exact .inr ⟨a, rfl, ⟨vs, h1⟩, o1 _ _ po.ext po.wd (gives_of po.wd walk_tup (fun B H2 hB e => e.sqT ⟨_, po.wd.cup⟩ (fun a z => (hB a z).1) h1) h2)⟩
  | lst ds =>
    cases ex
    obtain ⟨a, vs, rfl, h1, h3, h4, h2⟩ := po.rp
    exact .inl ⟨a, rfl, ⟨vs, SqL.of h1⟩, o1 _ _ po.ext po.wd (gives_of po.wd walk_list (fun B H2 hB e => e.sqL h1 h4 fun z => (hB a z).2 h3) h2)⟩
  | _ => cases ex
theorem Gives.mono {H H1 : Hp} {A A' : Addr → Prop} {xs : List D} {J : It} (h : Gives (gx X f) C H H1 A xs J) (k : ∀ a, A a → A' a) : Gives (gx X f) C H H1 A' xs J := by
  obtain ⟨Gd, Y, h1, h2, h3⟩ := h
  have ok : ∀ {B}, OkB H1 (fun a => A' a ∨ NL H a) B → OkB H1 (fun a => A a ∨ NL H a) B := fun hB a z => ⟨(hB a z).1, fun q => (hB a z).2 (q.imp (k a) id)⟩
  refine ⟨Gd, Y, h1, fun B H2 hB => h2 B H2 (ok hB), fun B i H2 x H3 u2 hB hi e w y => ?_⟩
  obtain ⟨d, e1, e2, e3, e4⟩ := h3 B i H2 x H3 u2 (ok hB) hi e w y
  exact ⟨d, e1, e2, e3, e4.mono fun a z => ⟨z.1.imp (k a) id, z.2⟩⟩
/-- what a for reads of its list: nothing, if the list is new -/
def srcA (e : Ex) (d : D) (A : Addr → Prop) : Addr → Prop := if e.fresh && d.ownable then fun _ => False else A
def tJ (g : G) (C : Addr) (wd : Words) (nw : Str) (call : Nat → List D → Cup → Re D) (W : WX) (src : Ex) : TI := fun σ H R => ∃ env u A, RelE g C H A env σ src.fv ∧ Wd g C H u ∧ Out g C W σ H (evE wd nw call src env u) fun d u' => ∃ xs, d.items = some xs ∧
  ∀ J H1, Ext C H H1 → Wd g C H1 u' → Gives g C H H1 (srcA src d A) xs J → R J H1
theorem pj_of {tg : Expr} {src : Ex} {x : Expr} (hf : src.fresh = false) (h : PI X tg x (tI (gx X f) C wd nw call W src)) : PI X tg x (tJ (gx X f) C wd nw call W src) := by
  refine piImp h fun σ H R q => ?_
  obtain ⟨env, u, A, rel, w, o⟩ := q
  refine ⟨env, u, A, rel, w, o.imp fun d u1 ⟨xs, ex, o1⟩ => ⟨xs, ex, fun J H1 e1 w1 gv => o1 J H1 e1 w1 ?_⟩⟩
  unfold srcA
  rw [hf, Bool.false_and]
  exact gv
theorem pj_val' {tg : Expr} {e : Ex} {x : Expr} (h : PE X x (tE (gx X f) C wd nw call W e)) : PI X tg x (tJ (gx X f) C wd nw call W e) := by
  refine piImp (pi_seq h) fun σ H R q => ?_
  obtain ⟨env, u, A, rel, w, o⟩ := q
  refine ⟨env, u, A, rel, w, o.imp fun d u1 ⟨xs, ex, o1⟩ v H1 po => ?_⟩
  cases d with
  | tup ds =>
    have ex' : xs = ds := (Option.some.inj ex).symm
    subst ex'
    obtain ⟨a, vs, rfl, h1, h2⟩ := po.rp
    refine .inr ⟨a, rfl, ⟨vs, h1⟩, o1 _ _ po.ext po.wd ?_⟩
    rw [show srcA e (.tup xs) A = A by simp [srcA, Ev.D.ownable, Ev.D.isBox]]
    exact gives_of po.wd walk_tup (fun B H2 hB e => e.sqT ⟨_, po.wd.cup⟩ (fun a z => (hB a z).1) h1) h2
  | lst ds =>
    have ex' : xs = ds := (Option.some.inj ex).symm
    subst ex'
    have nf := po.fr
    obtain ⟨a, vs, rfl, h1, h3, h4, h2⟩ := po.rp
    refine .inl ⟨a, rfl, ⟨vs, SqL.of h1⟩, o1 _ _ po.ext po.wd ?_⟩
    unfold srcA
    cases hc : e.fresh && Ev.D.ownable (.lst xs) with
    | false =>
      rw [if_neg Bool.false_ne_true]
      exact gives_of po.wd walk_list (fun B H2 hB e => e.sqL h1 h4 fun z => (hB a z).2 h3) h2
    | true =>
      rw [if_pos rfl]
      rw [Bool.and_eq_true] at hc
      have nl := nf hc.1 rfl a rfl
      have fl : Ev.D.flats xs = true := by
        have z := hc.2
        simpa [Ev.D.ownable, Ev.D.isBox, Ev.D.its] using z
      exact gives_of po.wd walk_list (fun B H2 hB e => e.sqL h1 h4 fun z => (hB a z).2 (.inr nl)) (Rps.ofFlat _ _ fl h2)
  | _ => cases ex
theorem pihImp {X : Cx} {tg it : Expr} {t t' : TI} (h : L2H.PIH X tg it t) (k : ∀ σ H R, t' σ H R → t σ H R) : L2H.PIH X tg it t' := ⟨fun pins s σ H R I q => h.run pins s σ H R I (k σ H R q)⟩
theorem pi_valH' {tg : Expr} {e : Ex} {x : Expr} (h : PE X x (tE (gx X f) C wd nw call W e)) : L2H.PIH X tg x (tI (gx X f) C wd nw call W e) := by
  refine pihImp (EvHot.pi_seqH h) fun σ H R q => ?_
  obtain ⟨env, u, A, rel, w, o⟩ := q
  refine ⟨env, u, A, rel, w, o.imp fun d u1 ⟨xs, ex, o1⟩ v H1 po => ?_⟩
  cases d with
  | tup ds =>
    cases ex
    obtain ⟨a, vs, rfl, h1, h2⟩ := po.rp
    exact .inr ⟨a, rfl, ⟨vs, h1⟩, o1 _ _ po.ext po.wd (gives_of po.wd walk_tup (fun B H2 hB e => e.sqT ⟨_, po.wd.cup⟩ (fun a z => (hB a z).1) h1) h2)⟩
  | lst ds =>
    cases ex
    obtain ⟨a, vs, rfl, h1, h3, h4, h2⟩ := po.rp
    exact .inl ⟨a, rfl, ⟨vs, SqL.of h1⟩, o1 _ _ po.ext po.wd (gives_of po.wd walk_list (fun B H2 hB e => e.sqL h1 h4 fun z => (hB a z).2 h3) h2)⟩
  | _ => cases ex
theorem range_len (k : Int) : (range k).length = k.toNat := by simp [range]
theorem range_at {k : Int} {i : Nat} (h : i < k.toNat) : (range k)[i]? = some (.int (0 + (i : Int))) := by simp [range, h]
theorem pi_rng' (h : XOk p f wd nw pr n X m) {tg : Expr} {a : Ex} {x : Expr} {fi : Str} {q pos : Pos} (hf : fi = "range") (hg : Ev.glb m.sc fi = true) (hm : X.mg fi = none) (ha : PE X x (tE (gx X f) C wd nw call W a)) (hs : starless x = true) : PI X tg (.Call (.Name fi q) [x] [] pos) (tI (gx X f) C wd nw call W (.rng a)) := by
  subst hf
  refine piImp (pi_range1 (h.glb hg) hm (pa_cons ha pa_nil (star_of hs)) (star_of hs)) fun σ H R q => ?_
  obtain ⟨env, u, A, rel, w, o⟩ := q
  rw [evE] at o
  refine ⟨env, u, A, rel, w, o.bind.imp fun d u1 o1 v H1 po => ?_⟩
  cases d with
  | int k =>
    have ev : v = .int k := po.rp
    subst ev
    simp only at o1
    split at o1
    · rename_i hk
      obtain ⟨xs, ex, o2⟩ := o1
      cases ex
      refine ⟨k, rfl, by omega, by omega, o2 _ _ po.ext po.wd ⟨fun _ => True, _, by rw [range_len]; exact walk_range, fun _ _ _ _ => trivial, fun B i H2 y H3 u2 hB hi e w2 yy => ?_⟩⟩
      obtain ⟨y1, y2⟩ := yy
      subst y1
      rw [range_len] at hi
      exact ⟨_, range_at hi, w2.refl, w2, y2⟩
    · exact o1.elim
  | _ => exact o1.elim

/-- a text that is walked -/
theorem pi_sgn' {tg : Expr} {a : Ex} {x : Expr} (ha : PE X x (tE (gx X f) C wd nw call W a)) : PI X tg x (tI (gx X f) C wd nw call W (.sgn a)) := by
  refine piImp (pi_str ha) fun σ H R q => ?_
  obtain ⟨env, u, A, rel, w, o⟩ := q
  rw [evE] at o
  refine ⟨env, u, A, rel, w, o.bind.imp fun d u1 o1 v H1 po => ?_⟩
  cases d with
  | str z =>
    have ev : v = .str z := po.rp
    subst ev
    simp only [sgnV] at o1
    split at o1
    · rename_i hz
      obtain ⟨xs, ex, o2⟩ := o1
      cases ex
      have hl : (signs z).length = z.cps.size := by simp [signs]
      refine ⟨z, rfl, o2 _ _ po.ext po.wd ⟨fun _ => True, _, by rw [hl]; exact walk_str, fun _ _ _ _ => trivial, fun B i H2 y H3 u2 hB hi e w2 yy => ?_⟩⟩
      obtain ⟨y1, c, y2, y3⟩ := yy
      subst y1
      subst y3
      refine ⟨.str ⟨#[c]⟩, ?_, w2.refl, w2, rfl⟩
      unfold signs
      rw [List.getElem?_map, Array.getElem?_toList, y2]
      rfl
    · exact o1.elim
  | _ => exact o1.elim
theorem pairs_len : ∀ {i : Nat} {xs : List D}, (pairs i xs).length = xs.length
  | _, [] => rfl
  | i, x :: xs => by rw [pairs, List.length_cons, List.length_cons, pairs_len]
theorem pairs_at : ∀ {i j : Nat} {xs : List D}, (pairs i xs)[j]? = (xs[j]?).map fun x => D.tup [.int ((i + j : Nat) : Int), x]
  | _, _, [] => by simp [pairs]
  | i, 0, x :: xs => by simp [pairs]
  | i, j + 1, x :: xs => by
    rw [pairs, List.getElem?_cons_succ, List.getElem?_cons_succ, pairs_at]
    have e : i + 1 + j = i + (j + 1) := by omega
    rw [e]
/-- enumerate of a list, of a tuple -/
theorem gives_enum {H H1 : Hp} {A : Addr → Prop} {ds : List D} {vs : List V} {Gd : Hp → Prop} {J : It} {u1 : Cup} (wc : Wd (gx X f) C H1 u1) (w : Walk J vs.length Gd (YPair (fun i => some (.int (i : Nat))) (fun i => vs[i]?))) (hG : ∀ B H2, OkB H1 (fun a => A a ∨ NL H a) B → ExtB C B H1 H2 → Gd H2) (r : Rps (gx X f) C H1 (fun a => A a ∨ NL H a) ds vs) :
    Gives (gx X f) C H H1 A (pairs 0 ds) J := by
  refine ⟨Gd, _, by rw [pairs_len, r.length]; exact w, hG, fun B i H2 x H3 u2 hB hi e w2 y => ?_⟩
  obtain ⟨T, v1, v2, rfl, nT, rfl, e1, e2⟩ := y
  have e1 : some (V.int (i : Nat)) = some v1 := e1
  have e2 : vs[i]? = some v2 := e2
  cases e1
  have i1 : i < ds.length := by
    rw [pairs_len] at hi
    exact hi
  obtain ⟨v', k1, k2⟩ := (r.tight).get (i := i) (d := ds[i]) (by simp [i1])
  rw [e2] at k1
  cases k1
  exact ⟨.tup [.int ((0 + i : Nat) : Int), ds[i]], by rw [pairs_at]; simp [i1], w2.newX nT, w2.newW nT, T, [.int (i : Nat), v2], rfl, SqT.of upd_same, _, _, rfl, by rw [Nat.zero_add]; rfl, _, _, rfl, (w2.newX nT).rp (e.rp ⟨_, wc.cup⟩ (fun a z => (hB a z).1) (fun a z k => (hB a k).2 z.1) k2), rfl⟩
theorem pi_enu' (h : XOk p f wd nw pr n X m) {elts : List Expr} {kk : Nat} {tpos : Pos} {a : Ex} {x : Expr} {fi : Str} {q pos : Pos} (hf : fi = "enumerate") (hg : Ev.glb m.sc fi = true) (hm : X.mg fi = none) (ha : PE X x (tE (gx X f) C wd nw call W a)) (hs : starless x = true) :
    PI X (.Tuple elts kk tpos) (.Call (.Name fi q) [x] [] pos) (tI (gx X f) C wd nw call W (.enu a)) := by
  subst hf
  refine piImp (EvWk.pi_enumA (h.glb hg) hm (pa_cons ha pa_nil (star_of hs)) (star_of hs)) fun σ H R q => ?_
  obtain ⟨env, u, A, rel, w, o⟩ := q
  rw [evE] at o
  refine ⟨env, u, A, rel, w, o.bind.imp fun d u1 o1 v H1 po => ?_⟩
  cases d with
  | lst ds =>
    obtain ⟨a1, vs, rfl, h1, h3, h4, h2⟩ := po.rp
    obtain ⟨xs, ex, o2⟩ := o1
    cases ex
    exact ⟨a1, vs, rfl, .inl ⟨SqL.of h1, o2 _ _ po.ext po.wd (gives_enum po.wd walk_enum (fun B H2 hB e => e.sqL h1 h4 fun z => (hB _ z).2 h3) h2)⟩⟩
  | tup ds =>
    obtain ⟨a1, vs, rfl, h1, h2⟩ := po.rp
    obtain ⟨xs, ex, o2⟩ := o1
    cases ex
    exact ⟨a1, vs, rfl, .inr ⟨h1, o2 _ _ po.ext po.wd (gives_enum po.wd (EvWk.walk_enumK (k := false)) (fun B H2 hB e => show SqT X.K H2 a1 vs from e.sqT ⟨_, po.wd.cup⟩ (fun a z => (hB a z).1) h1) h2)⟩⟩
  | _ => exact o1.elim
theorem gives_zip {H H1 : Hp} {A : Addr → Prop} {ds es : List D} {vs ws : List V} {Gd : Hp → Prop} {J : It} {u1 : Cup} (wc : Wd (gx X f) C H1 u1) (w : Walk J (min vs.length ws.length) Gd (YPair (fun i => vs[i]?) (fun i => ws[i]?))) (hG : ∀ B H2, OkB H1 (fun a => A a ∨ NL H a) B → ExtB C B H1 H2 → Gd H2) (r : Rps (gx X f) C H1 (fun a => A a ∨ NL H a) ds vs) (r2 : Rps (gx X f) C H1 (fun a => A a ∨ NL H a) es ws) :
    Gives (gx X f) C H H1 A ((ds.zip es).map fun p => .tup [p.1, p.2]) J := by
  have hl : ((ds.zip es).map fun p => D.tup [p.1, p.2]).length = min vs.length ws.length := by rw [List.length_map, List.length_zip, r.length, r2.length]
  refine ⟨Gd, _, by rw [hl]; exact w, hG, fun B i H2 x H3 u2 hB hi e w2 y => ?_⟩
  obtain ⟨T, v, z, rfl, nT, rfl, e1, e2⟩ := y
  have e1 : vs[i]? = some v := e1
  have e2 : ws[i]? = some z := e2
  have i1 : i < ds.length := by
    rw [r.length]
    exact (List.getElem?_eq_some_iff.mp e1).1
  have i2 : i < es.length := by
    rw [r2.length]
    exact (List.getElem?_eq_some_iff.mp e2).1
  obtain ⟨v', h1, h2⟩ := (r.tight).get (i := i) (d := ds[i]) (by simp [i1])
  obtain ⟨z', k1, k2⟩ := (r2.tight).get (i := i) (d := es[i]) (by simp [i2])
  rw [e1] at h1
  cases h1
  rw [e2] at k1
  cases k1
  refine ⟨.tup [ds[i], es[i]], by simp [List.getElem?_map, List.getElem?_zip_eq_some, i1, i2], w2.newX nT, w2.newW nT, T, [v, z], rfl, SqT.of upd_same, _, _, rfl, (w2.newX nT).rp (e.rp ⟨_, wc.cup⟩ (fun a z => (hB a z).1) (fun a z k => (hB a k).2 z.1) h2), _, _, rfl, (w2.newX nT).rp (e.rp ⟨_, wc.cup⟩ (fun a z => (hB a z).1) (fun a z k => (hB a k).2 z.1) k2), rfl⟩
/-- a list or a tuple as it stands while others change -/
theorem seq_stays {H H1 : Hp} {A : Addr → Prop} {d : D} {ds : List D} {v : V} (wc : ∃ vs, H1 C = some (.lst vs)) (hd : d = .lst ds ∨ d = .tup ds) (r : Rp (gx X f) C H1 (fun a => A a ∨ NL H a) d v) :
    ∃ (k : Bool) (a : Addr) (vs : List V), v = .ref a ∧ EvWk.SqK X.K k H1 a vs ∧ Rps (gx X f) C H1 (fun a => A a ∨ NL H a) ds vs ∧ ∀ B H2, OkB H1 (fun a => A a ∨ NL H a) B → ExtB C B H1 H2 → EvWk.SqK X.K k H2 a vs := by
  rcases hd with rfl | rfl
  · obtain ⟨a, vs, rfl, h1, h3, h4, h2⟩ := r
    exact ⟨true, a, vs, rfl, show SqL X.K H1 a vs from SqL.of h1, h2, fun B H2 hB e => show SqL X.K H2 a vs from e.sqL h1 h4 fun z => (hB a z).2 h3⟩
  · obtain ⟨a, vs, rfl, h1, h2⟩ := r
    exact ⟨false, a, vs, rfl, show SqT X.K H1 a vs from h1, h2, fun B H2 hB e => show SqT X.K H2 a vs from e.sqT wc (fun a z => (hB a z).1) h1⟩
theorem pi_zip' (h : XOk p f wd nw pr n X m) {elts : List Expr} {kk : Nat} {tpos : Pos} {a b : Ex} {x y : Expr} {fi : Str} {q pos : Pos} (hf : fi = "zip") (hg : Ev.glb m.sc fi = true) (hm : X.mg fi = none) (ha : PE X x (tE (gx X f) C wd nw call W a)) (hb : PE X y (tE (gx X f) C wd nw call W b)) (hs : starless x = true) (hs2 : starless y = true) :
    PI X (.Tuple elts kk tpos) (.Call (.Name fi q) [x, y] [] pos) (tI (gx X f) C wd nw call W (.zip a b)) := by
  subst hf
  refine piImp (EvWk.pi_zipK (h.glb hg) hm (pa_cons ha (pa_cons hb pa_nil (star_of hs2)) (star_of hs)) (star_of hs) (by rw [star_of hs2]; rfl)) fun σ H R q => ?_
  obtain ⟨env, u, A, rel, w, o⟩ := q
  rw [evE] at o
  have rel' : RelE (gx X f) C H A env σ (a.fv ++ b.fv) := rel
  refine ⟨env, u, A, rel'.left, w, o.bind.imp fun d u1 o1 v H1 po => ?_⟩
  refine ⟨env, u1, A, rel'.right.ext po.ext, po.wd, (o1.bind.up po.ext).imp fun d2 u2 o2 w2 H2 ps => ?_⟩
  have rx := ps.ext.rp po.rp
  have ry := ps.rp.mono (A' := fun a => A a ∨ NL H a) fun a ha => ha.elim .inl fun n => .inr (po.ext.free a n)
  have fin : ∀ {ds es : List D}, (d = .lst ds ∨ d = .tup ds) → (d2 = .lst es ∨ d2 = .tup es) → Out (gx X f) C W σ H (.ok (.lst ((ds.zip es).map fun p => .tup [p.1, p.2])) u2 : Re D) (fun d u' => ∃ xs, d.items = some xs ∧ ∀ J H1, Ext C H H1 → Wd (gx X f) C H1 u' → Gives (gx X f) C H H1 A xs J → R J H1) → ∃ k l a b xs ys, [v, w2] = [V.ref a, V.ref b] ∧ EvWk.SqK X.K k H2 a xs ∧ EvWk.SqK X.K l H2 b ys ∧ R (EvWk.ItzK X.K k l a b) H2 := fun {ds es} e1 e2 o => by
    obtain ⟨zs, ez, k0⟩ := o
    cases ez
    obtain ⟨k, a1, vs, rfl, h1, h2, h3⟩ := seq_stays ⟨_, ps.wd.cup⟩ e1 rx
    obtain ⟨l, b1, ws, rfl, k1, k2, k3⟩ := seq_stays ⟨_, ps.wd.cup⟩ e2 ry
    exact ⟨k, l, a1, b1, vs, ws, rfl, h1, k1, k0 _ H2 (po.ext.trans ps.ext) ps.wd (gives_zip ps.wd (EvWk.walk_zipK rfl) (fun B H3 hB e => ⟨h3 B H3 hB e, k3 B H3 hB e⟩) h2 k2)⟩
  cases d <;> cases d2 <;> first | exact o2.elim | skip
  · exact fin (.inr rfl) (.inr rfl) o2
  · exact fin (.inr rfl) (.inl rfl) o2
  · exact fin (.inl rfl) (.inr rfl) o2
  · exact fin (.inl rfl) (.inl rfl) o2
/-- range(a, b) -/
theorem range2_len (a b : Int) : (range2 a b).length = (b - a).toNat := by simp [range2]
theorem range2_at {a b : Int} {i : Nat} (h : i < (b - a).toNat) : (range2 a b)[i]? = some (.int (a + (i : Int))) := by simp [range2, h]
theorem smallI_iff {a : Int} (h : smallI a = true) : -1000000 ≤ a ∧ a ≤ 1000000 := by
  unfold smallI at h
  simpa using h
theorem pi_rng2' (h : XOk p f wd nw pr n X m) {tg : Expr} {a b : Ex} {x y : Expr} {fi : Str} {q pos : Pos} (hf : fi = "range") (hg : Ev.glb m.sc fi = true) (hm : X.mg fi = none) (ha : PE X x (tE (gx X f) C wd nw call W a)) (hb : PE X y (tE (gx X f) C wd nw call W b)) (hs : starless x = true) (hs2 : starless y = true) : PI X tg (.Call (.Name fi q) [x, y] [] pos) (tI (gx X f) C wd nw call W (.rng2 a b)) := by
  subst hf
  refine piImp (pi_range2 (h.glb hg) hm (pa_cons ha (pa_cons hb pa_nil (star_of hs2)) (star_of hs)) (by rw [star_of hs, star_of hs2]; rfl) (star_of hs2)) fun σ H R q => ?_
  obtain ⟨env, u, A, rel, w, o⟩ := q
  rw [evE] at o
  have rel' : RelE (gx X f) C H A env σ (a.fv ++ b.fv) := rel
  refine ⟨env, u, A, rel'.left, w, o.bind.imp fun d u1 o1 v H1 po => ?_⟩
  refine ⟨env, u1, A, rel'.right.ext po.ext, po.wd, (o1.bind.up po.ext).imp fun d2 u2 o2 w2 H2 ps => ?_⟩
  unfold lrgV at o2
  cases d <;> first | exact o2.elim | skip
  cases d2 <;> first | exact o2.elim | skip
  rename_i i j
  have e1 : v = .int i := po.rp
  have e2 : w2 = .int j := ps.rp
  subst e1
  subst e2
  simp only at o2
  split at o2
  · rename_i hs
    rw [Bool.and_eq_true] at hs
    obtain ⟨i1, i2⟩ := smallI_iff hs.1
    obtain ⟨j1, j2⟩ := smallI_iff hs.2
    obtain ⟨xs, ex, o3⟩ := o2
    cases ex
    refine ⟨i, j, rfl, ⟨by omega, by omega, by omega, by omega⟩, o3 _ _ (po.ext.trans ps.ext) ps.wd ⟨fun _ => True, _, by rw [range2_len]; exact walk_range, fun _ _ _ _ => trivial, fun B k H3 z H4 u3 hB hk e w3 yy => ?_⟩⟩
    obtain ⟨y1, y2⟩ := yy
    subst y1
    rw [range2_len] at hk
    exact ⟨_, range2_at hk, w3.refl, w3, y2⟩
  · exact o2.elim
end
end Ev

/-! Comprehensions. -/
namespace Ev
open PySem PySem.Spec PyProof.Rows L2 LamX
section
variable {p : PC} {f : Fx} {wd : Words} {nw : Str} {pr : List FD} {n : Nat} {X : Cx} {m : MC} {C : Addr} {W : WX} {call : Nat → List D → Cup → Re D}
theorem peImpL {X : Cx} {e : Expr} {t t' : TE} (h : PE X e t) (k : ∀ σ H Q, σ.length = X.N.length → t' σ H Q → t σ H Q) : PE X e t' := ⟨fun pins s σ H Q I q => h.run pins s σ H Q I (k σ H Q I.len q)⟩
theorem psImpL {X : Cx} {s : Stmt} {t t' : TS} (h : PS X s t) (k : ∀ D σ H, σ.length = X.N.length → t' D σ H → t D σ H) : PS X s t' := ⟨fun pins s σ H D I q => h.run pins s σ H D I (k D σ H I.len q)⟩
theorem wipeE_at {env : En} {i : Nat} : ∀ {vs : List Nat}, (i ∈ vs → (wipeE env vs)[i]? = none ∨ (wipeE env vs)[i]? = some none) ∧ (i ∉ vs → (wipeE env vs)[i]? = env[i]?)
  | [] => ⟨fun h => by simp at h, fun _ => rfl⟩
  | v :: vs => by
    have ih := wipeE_at (env := env) (i := i) (vs := vs)
    refine ⟨fun h => ?_, fun h => ?_⟩
    · unfold wipeE
      by_cases hv : v = i
      · subst hv
        by_cases hl : v < (wipeE env vs).length
        · rw [List.getElem?_set_self hl]
          exact .inr rfl
        · rw [List.getElem?_eq_none (by rw [List.length_set]; omega)]
          exact .inl rfl
      · rw [List.getElem?_set_ne hv]
        exact ih.1 ((List.mem_cons.mp h).resolve_left fun e => hv e.symm)
    · rw [List.mem_cons, not_or] at h
      unfold wipeE
      rw [List.getElem?_set_ne fun e => h.1 e.symm]
      exact ih.2 h.2
theorem wipe_at {σ : L2.St} {i : Nat} : ∀ {vs : List Nat}, i ∈ vs → i < σ.length → (wipe σ vs)[i]? = some none
  | [], h, _ => by simp at h
  | v :: vs, h, hl => by
    unfold wipe
    by_cases hv : v = i
    · subst hv
      rw [List.getElem?_set_self (by rw [wipe_length]; exact hl)]
    · rw [List.getElem?_set_ne hv]
      exact wipe_at ((List.mem_cons.mp h).resolve_left fun e => hv e.symm) hl
theorem wipe_eq {σ σ2 : L2.St} {vs : List Nat} (hl : σ2.length = σ.length) (h : ∀ i, i ∉ vs → σ2[i]? = σ[i]?) : wipe σ2 vs = wipe σ vs := by
  apply List.ext_getElem?
  intro i
  by_cases hi : i ∈ vs
  · by_cases hb : i < σ.length
    · rw [wipe_at hi hb, wipe_at hi (by omega)]
    · rw [List.getElem?_eq_none (by rw [wipe_length]; omega), List.getElem?_eq_none (by rw [wipe_length]; omega)]
  · rw [wipe_out hi, wipe_out hi, h i hi]
theorem wipe_idem {σ : L2.St} {vs : List Nat} : wipe (wipe σ vs) vs = wipe σ vs := wipe_eq (wipe_length σ vs) fun i hi => wipe_out hi
/-- the tests of a comprehension -/
theorem pts_ok {ifs : List Ex} {xs : List Expr} (hp : Paired (fun e x => PT X x (tT (gx X f) C wd nw call W e)) ifs xs) (hl : xs.length ≤ 1) : PTs X xs (tTB (gx X f) C wd nw call W .And ifs) := by
  cases hp with
  | nil =>
    refine ⟨fun pins s σ H Q I q => pts_nil.run pins s σ H Q I ?_⟩
    obtain ⟨env, u, A, rel, w, o⟩ := q
    simp only [evB] at o
    obtain ⟨b, e, h⟩ := o
    cases e
    exact h H w.refl w
  | cons h r =>
    cases r with
    | cons _ _ => simp at hl
    | nil =>
      refine ⟨fun pins s σ H Q I q => (pts_one h).run pins s σ H Q I ?_⟩
      obtain ⟨env, u, A, rel, w, o⟩ := q
      rw [evB] at o
      refine ⟨env, u, A, rel.left, w, o.bind.imp fun d u1 o1 => ?_⟩
      cases d with
      | bl b => cases b with
        | true => (simp only [evB] at o1; exact o1)
        | false => exact o1
      | _ => exact o1.elim
theorem ownP_ix {own : List Nat} : (ownP m own).map (·.2) = own := by
  unfold ownP
  rw [List.map_map]
  exact List.map_id' own
abbrev W0 : WX := fun _ _ _ _ => False
/-- one turn, as the evaluator says -/
def turnE (wd : Words) (nw : Str) (call : Nat → List D → Cup → Re D) (own : List Nat) (tg : Tg) (ifs : List Ex) (elt : Ex) (env : En) (d : D) (u2 : Cup) : Re (Option D) := match tg.put d (wipeE env own) with
  | some env2 => (evB wd nw call .And ifs env2 u2).bind fun t u3 => match t with
    | .bl true => (evE wd nw call elt env2 u3).bind fun y u4 => .ok (some y) u4
    | .bl false => .ok none u3
    | _ => .bad
  | none => .bad
theorem evE_lc {own : List Nat} {tg : Tg} {src : Ex} {ifs : List Ex} {elt : Ex} {env : En} {u : Cup} : evE wd nw call (.lc own tg src ifs elt) env u = (evE wd nw call src env u).bind fun x u1 => match x.items with
    | some xs => noExc ((lcLoop (turnE wd nw call own tg ifs elt env) xs u1).bind fun ys u5 => if xs.length ≤ big then .ok (.lst ys) u5 else .bad)
    | none => .bad := by
  rw [evE]
  rfl
theorem lc_len {F : D → Cup → Re (Option D)} : ∀ {xs : List D} {u u5 : Cup} {ys : List D}, lcLoop F xs u = .ok ys u5 → ys.length ≤ xs.length
  | [], u, u5, ys, h => by
    simp only [lcLoop] at h
    cases h
    simp
  | x :: xs, u, u5, ys, h => by
    simp only [lcLoop] at h
    cases e : F x u with
    | ok y u1 =>
      rw [e] at h
      simp only [Re.bind] at h
      cases e2 : lcLoop F xs u1 with
      | ok zs u2 =>
        rw [e2] at h
        have ih := lc_len e2
        cases y <;> (cases h; simp [optCons]; omega)
      | exc _ _ => rw [e2] at h; cases h
      | bad => rw [e2] at h; cases h
    | exc _ _ => rw [e] at h; cases h
    | bad => rw [e] at h; cases h
theorem lc_imp {own : List Nat} {tg : Tg} {src elt : Ex} {ifs : List Ex} (hsub : ∀ i ∈ tg.slots, i ∈ own) {σ : L2.St} {H : Hp} {Q : VK} (q : tE (gx X f) C wd nw call W (.lc own tg src ifs elt) σ H Q) :
    tLc (tI (gx X f) C wd nw call W src) (tG (gx X f) C tg) (tTB (gx X f) C wd nw call W0 .And ifs) (tE (gx X f) C wd nw call W0 elt) ((ownP m own).map (·.2)) σ H Q := by
  obtain ⟨env, u, A, rel, w, o⟩ := q
  rw [evE_lc] at o
  have rel' : RelE (gx X f) C H A env σ (src.fv ++ (Ex.fvs ifs ++ elt.fv).filter fun i => !own.contains i) := rel
  rw [ownP_ix]
  refine ⟨env, u, A, rel'.left, w, o.bind.imp fun d u1 o1 => ?_⟩
  cases ed : d.items with
  | none =>
    simp only [ed] at o1
    exact o1.elim
  | some xs =>
    simp only [ed] at o1
    refine ⟨xs, rfl, fun J H1 e1 w1 gv D nD => ?_⟩
    obtain ⟨Gd, Y, wk, hG, hY⟩ := gv
    cases eL : lcLoop (turnE wd nw call own tg ifs elt env) xs u1 with
    | exc k u5 => rw [eL] at o1; exact o1.elim
    | bad => rw [eL] at o1; exact o1.elim
    | ok ys u5 =>
    rw [eL] at o1
    simp only [Re.bind] at o1
    split at o1
    case isFalse => exact o1.elim
    case isTrue hbig =>
    have o1 : ∀ v' H', Post (gx X f) C H A true (.lst ys) u5 v' H' → Q v' H' := o1
    have nDC : D ≠ C := (ne_of_none w1.cup nD).symm
    refine lc_it wk (fun i H2 => ∃ (acc : List V) (ds zs : List Ev.D) (u2 : Cup), Ext C H1 H2 ∧ Wd (gx X f) C H2 u2 ∧ H2 D = some (.lst acc) ∧ Rps (gx X f) C H2 (fun a => (A a ∨ NL H a) ∧ a ≠ D) ds acc ∧ ds.length ≤ i ∧ lcLoop (turnE wd nw call own tg ifs elt env) (xs.drop i) u2 = .ok zs u5 ∧ ys = ds ++ zs)
      ⟨[], [], ys, u1, w1.newX nD, w1.newW nD, upd_same, rfl, Nat.le_refl _, by rw [List.drop_zero]; exact eL, rfl⟩ (fun i H2 _ ⟨_, _, _, _, e2, _⟩ => hG (fun _ => False) H2 (fun _ z => z.elim) e2.toB) ?_ ?_
    · rintro i x H2 H3 hi ⟨acc, ds, zs, u2, e2, w2, hD, hr, hlen, hL, hys⟩ y
      obtain ⟨d1, hd1, e3, w3, r3⟩ := hY (fun _ => False) i H2 x H3 u2 (fun _ z => z.elim) hi e2.toB w2 y
      have ed1 : d1 = xs[i] := by
        rw [List.getElem?_eq_getElem hi] at hd1
        exact (Option.some.inj hd1).symm
      rw [List.drop_eq_getElem_cons hi, ← ed1] at hL
      simp only [lcLoop] at hL
      cases eT : turnE wd nw call own tg ifs elt env d1 u2 with
      | exc _ _ => rw [eT] at hL; cases hL
      | bad => rw [eT] at hL; cases hL
      | ok yo u3 =>
      rw [eT] at hL
      simp only [Re.bind] at hL
      cases eL2 : lcLoop (turnE wd nw call own tg ifs elt env) (xs.drop (i + 1)) u3 with
      | exc _ _ => rw [eL2] at hL; cases hL
      | bad => rw [eL2] at hL; cases hL
      | ok zs2 u6 =>
      rw [eL2] at hL
      simp only at hL
      have eu : u6 = u5 := by cases hL; rfl
      have ez : zs = optCons yo zs2 := by cases hL; rfl
      rw [eu] at eL2
      unfold turnE at eT
      cases eP : tg.put d1 (wipeE env own) with
      | none => rw [eP] at eT; cases eT
      | some env2 =>
      rw [eP] at eT
      simp only at eT
      have E3 : Ext C H1 H3 := e2.trans e3
      have E03 : Ext C H H3 := e1.trans E3
      have hD3 : H3 D = some (.lst acc) := e3.lst hD nDC
      have nDH : NL H D := e1.free D (NL.of nD)
      -- the target
      refine ⟨fun a => (A a ∨ NL H a) ∧ ¬ NL H1 a, d1, wipeE env own, env2, r3, eP, fun σ2 pr => ?_⟩
      refine ⟨by rw [← wipe_idem (σ := σ)]; exact wipe_eq pr.len fun i hi => (pr.off i fun hm => hi (hsub i hm)).2, ?_⟩
      -- the slots behind it
      have rel2 : RelE (gx X f) C H3 (fun a => ((A a ∨ NL H a) ∧ a ≠ D)) env2 σ2 (Ex.fvs ifs ++ elt.fv) := fun j hj b d e => by
        rcases pr.on j b d e with ⟨k1, k2⟩ | ⟨_, v, k2, k3⟩
        · by_cases hjo : j ∈ own
          · rcases (wipeE_at (env := env)).1 hjo with z | z <;> (rw [z] at k1; cases k1)
          · rw [(wipeE_at (env := env)).2 hjo] at k1
            obtain ⟨v, k3, k4⟩ := rel'.right j (List.mem_filter.mpr ⟨hj, by simpa using hjo⟩) b d k1
            refine ⟨v, by rw [k2, wipe_out hjo]; exact k3, E03.rp (k4.tight.mono fun a ha => ⟨.inl ha.1, fun z => ha.2 (by rw [z]; exact nDH)⟩)⟩
        · exact ⟨v, k2, k3.mono fun a ha => ⟨ha.1, fun z => ha.2 (by rw [z]; exact NL.of nD)⟩⟩
      -- the tests
      refine ⟨env2, u2, _, rel2.left, w3, ?_⟩
      cases eB : evB wd nw call .And ifs env2 u2 with
      | exc _ _ => rw [eB] at eT; cases eT
      | bad => rw [eB] at eT; cases eT
      | ok t u4 =>
      rw [eB] at eT
      simp only [Re.bind] at eT
      cases t with
      | bl b =>
        refine ⟨b, rfl, fun H4 e4 w4 => ?_⟩
        have hD4 : H4 D = some (.lst acc) := e4.lst hD3 nDC
        have hr4 := e4.rps (e3.rps hr)
        cases b with
        | false =>
          simp only at eT
          refine iteF ?_
          have ey : yo = none := by cases eT; rfl
          have eu3 : u3 = u4 := by cases eT; rfl
          subst ey
          subst eu3
          exact ⟨acc, ds, zs2, _, E3.trans e4, w4, hD4, hr4, by omega, eL2, by rw [hys, ez]; rfl⟩
        | true =>
          simp only at eT
          refine iteT ?_
          refine ⟨env2, u4, _, rel2.right.ext e4, w4, ?_⟩
          cases eE : evE wd nw call elt env2 u4 with
          | exc _ _ => rw [eE] at eT; cases eT
          | bad => rw [eE] at eT; cases eT
          | ok z u7 =>
          rw [eE] at eT
          simp only [Re.bind] at eT
          have ey : yo = some z := by cases eT; rfl
          have eu3 : u3 = u7 := by cases eT; rfl
          subst ey
          subst eu3
          intro v H5 po
          have hD5 : H5 D = some (.lst acc) := po.ext.lst hD4 nDC
          have la : ds.length = acc.length := hr.length
          refine ⟨acc, hD5, ?_, acc ++ [v], ds ++ [z], zs2, _, ?_, ?_, upd_same, ?_, ?_, eL2, ?_⟩
          · have := big_le
            have : xs.length ≤ big := hbig
            omega
          · have E5 := (E3.trans e4).trans po.ext
            refine ⟨E5.cup, ⟨_, by rw [upd_ne nDC.symm]; exact po.wd.cup⟩, fun b o hb n1 n2 => ?_⟩
            rw [upd_ne (ne_of_none hb nD)]
            exact E5.keep b o hb n1 n2
          · refine ⟨by rw [upd_ne nDC.symm]; exact po.wd.cup, fun q hq => ?_⟩
            obtain ⟨ps, a1, a2, a3⟩ := po.wd.tabs q hq
            refine ⟨ps, by rw [upd_ne (fun z => by rw [z, hD5] at a1; cases a1)]; exact a1, a2, fun ps' cv hcv => ?_⟩
            obtain ⟨c0, b1, b2⟩ := a3 ps' cv hcv
            exact ⟨c0, b1, by rw [upd_ne (fun z => by rw [z, hD5] at b2; unfold CodeO at b2; cases b2)]; exact b2⟩
          · have mv : ∀ {d : List Ev.D} {vs : List V}, Rps (gx X f) C H5 (fun a => (A a ∨ NL H a) ∧ a ≠ D) d vs → Rps (gx X f) C (upd H5 D (.lst (acc ++ [v]))) (fun a => (A a ∨ NL H a) ∧ a ≠ D) d vs := fun {d vs} r => Rps.move (fun a vs k => by
              rcases k with (k | ⟨o, k⟩) | k
              · exact .inl (.inl (by rw [upd_ne (fun z => by rw [z, hD5] at k; cases k)]; exact k))
              · exact .inl (.inr ⟨o, by rw [upd_ne (fun z => by rw [z, hD5] at k; cases k)]; exact k⟩)
              · exact .inr k) (fun a o _ k1 k2 _ => ⟨by rw [upd_ne k2.2]; exact k1, k2⟩) d vs r
            refine mv (Rps.app (po.ext.rps hr4) (Rps.one (po.rp.mono fun a ha => ?_)))
            rcases ha with ha | ha
            · exact ha
            · have ea : a ≠ D := fun z => by
                rw [z] at ha
                exact ha.lst hD4
              exact ⟨.inr (E03.free a (e4.free a ha)), ea⟩
          · rw [List.length_append]
            simp
            omega
          · rw [hys, ez]
            simp [optCons]
      | _ => cases eT
    · rintro H2 ⟨acc, ds, zs, u2, e2, w2, hD, hr, hlen, hL, hys⟩
      rw [List.drop_length] at hL
      simp only [lcLoop] at hL
      have ez : zs = [] := by cases hL; rfl
      have eu : u2 = u5 := by cases hL; rfl
      subst ez
      subst eu
      rw [List.append_nil] at hys
      subst hys
      refine o1 _ _ ⟨e1.trans e2, w2, ⟨D, acc, rfl, hD, .inr (e1.free D (NL.of nD)), nDC, hr.mono fun a ha => ha.1⟩, fun _ _ p e => ?_⟩
      cases e
      exact e1.free D (NL.of nD)
theorem pe_lc' (h : XOk p f wd nw pr n X m) (hh : m.hot = false) {own : List Nat} {tg : Tg} {src elt : Ex} {ifs : List Ex} {tg' it' elt' : Expr} {ifs' : List Expr} {scope : Scope} {pos : Pos} (hi : PI X tg' it' (tI (gx X f) C wd nw call W src)) (ok : blkC m.N m.sc scope (ownP m own) = true)
    (hsub : ∀ i ∈ tg.slots, i ∈ own) (hown : ∀ i ∈ own, i < m.N.length)
    (hg : ∀ (s : Shared) (H : Hp) (D : Addr) (cl : List (Str × Addr)) (fp : List Addr), PG (X.blk s H scope (compEnvC scope cl D X.env) fp) tg' (tG (gx X f) C tg))
    (ht : ∀ (s : Shared) (H : Hp) (D : Addr) (cl : List (Str × Addr)) (fp : List Addr), PTs (X.blk s H scope (compEnvC scope cl D X.env) fp) ifs' (tTB (gx X f) C wd nw call W0 .And ifs))
    (he : ∀ (s : Shared) (H : Hp) (D : Addr) (cl : List (Str × Addr)) (fp : List Addr), PE (X.blk s H scope (compEnvC scope cl D X.env) fp) elt' (tE (gx X f) C wd nw call W0 elt)) (hs : starless it' = true) :
    PE X (.ListComp elt' [⟨tg', it', ifs', 0⟩] scope pos) (tE (gx X f) C wd nw call W (.lc own tg src ifs elt)) := by
  have okB : BlkOk X.N X.env.scope scope (ownP m own) := by
    rw [h.N, h.sc]
    exact blkOk_by ok
  exact peImp (pe_lc (h.calm hh) h.nd hi okB hg ht he (fun x => by cases it' <;> first | rfl | cases hs)) fun σ H Q q => lc_imp hsub q
theorem ps_setLc' (h : XOk p f wd nw pr n X m) (hh : m.hot = false) (hk : m.sc.kind = .function) {i : Nat} {y : Str} {own : List Nat} {tg : Tg} {src elt : Ex} {ifs : List Ex} {tg' it' elt' : Expr} {ifs' : List Expr} {scope : Scope} {py pos spos : Pos} (hy : m.N[i]? = some y) (hl : m.sc.names.lookup y = some .local)
    (hline : (py.line == pos.line) = true) (hown2 : (scope.names.any fun (n, k) => n == y && (k == .local || k == .cell)) = false) (hi : PI X tg' it' (tI (gx X f) C wd nw call W src)) (ok : blkC m.N m.sc scope (ownP m own) = true)
    (hsub : ∀ i ∈ tg.slots, i ∈ own)
    (hg : ∀ (s : Shared) (H : Hp) (D : Addr) (cl : List (Str × Addr)) (fp : List Addr), PG (X.blk s H scope (compEnvC scope cl D X.env) fp) tg' (tG (gx X f) C tg))
    (ht : ∀ (s : Shared) (H : Hp) (D : Addr) (cl : List (Str × Addr)) (fp : List Addr), PTs (X.blk s H scope (compEnvC scope cl D X.env) fp) ifs' (tTB (gx X f) C wd nw call W0 .And ifs))
    (he : ∀ (s : Shared) (H : Hp) (D : Addr) (cl : List (Str × Addr)) (fp : List Addr), PE (X.blk s H scope (compEnvC scope cl D X.env) fp) elt' (tE (gx X f) C wd nw call W0 elt)) (hs : starless it' = true) :
    PS X (.Assign [.Name y py] (.ListComp elt' [⟨tg', it', ifs', 0⟩] scope pos) spos) (tAsg (tE (gx X f) C wd nw call W (.lc own tg src ifs elt)) (gName i)) := by
  have okB : BlkOk X.N X.env.scope scope (ownP m own) := by
    rw [h.N, h.sc]
    exact blkOk_by ok
  have hl' : X.env.scope.names.lookup y = some .local := by rw [h.sc]; exact hl
  have hk' : X.env.scope.kind = .function := by rw [h.sc]; exact hk
  refine psImpL (ps_setLc (h.calm hh) h.nd (i := i) (by rw [h.N]; exact hy) hl' (sw_true hk' hl' hline hown2) hi okB hg ht he (fun x => by cases it' <;> first | rfl | cases hs)) fun D σ H len q => ?_
  exact lc_imp hsub q
theorem pe_lcH' (h : XOk p f wd nw pr n X m) (hh : m.hot = true) {own : List Nat} {tg : Tg} {src elt : Ex} {ifs : List Ex} {tg' it' elt' : Expr} {ifs' : List Expr} {scope : Scope} {pos : Pos} (hi : L2H.PIH X tg' it' (tI (gx X f) C wd nw call W src)) (ok : blkC m.N m.sc scope (ownP m own) = true)
    (hsub : ∀ i ∈ tg.slots, i ∈ own) (hown : ∀ i ∈ own, i < m.N.length)
    (hg : ∀ (p0 : Addr × Obj), L2H.Hot1 X.A p0 → ∀ (s : Shared) (H : Hp) (D : Addr) (cl : List (Str × Addr)) (fp : List Addr), PG (EvHot.blkH X p0 s H scope (compEnvC scope cl D X.env) fp) tg' (tG (gx X f) C tg))
    (ht : ∀ (p0 : Addr × Obj), L2H.Hot1 X.A p0 → ∀ (s : Shared) (H : Hp) (D : Addr) (cl : List (Str × Addr)) (fp : List Addr), PTs (EvHot.blkH X p0 s H scope (compEnvC scope cl D X.env) fp) ifs' (tTB (gx X f) C wd nw call W0 .And ifs))
    (he : ∀ (p0 : Addr × Obj), L2H.Hot1 X.A p0 → ∀ (s : Shared) (H : Hp) (D : Addr) (cl : List (Str × Addr)) (fp : List Addr), PE (EvHot.blkH X p0 s H scope (compEnvC scope cl D X.env) fp) elt' (tE (gx X f) C wd nw call W0 elt)) (hs : starless it' = true) :
    PE X (.ListComp elt' [⟨tg', it', ifs', 0⟩] scope pos) (tE (gx X f) C wd nw call W (.lc own tg src ifs elt)) := by
  have okB : BlkOk X.N X.env.scope scope (ownP m own) := by
    rw [h.N, h.sc]
    exact blkOk_by ok
  exact peImp (EvHot.pe_lcH (h.hot hh) h.nd hi okB hg ht he (fun x => by cases it' <;> first | rfl | cases hs)) fun σ H Q q => lc_imp hsub q
theorem ps_setLcH' (h : XOk p f wd nw pr n X m) (hh : m.hot = true) (hk : m.sc.kind = .function) {i : Nat} {y : Str} {own : List Nat} {tg : Tg} {src elt : Ex} {ifs : List Ex} {tg' it' elt' : Expr} {ifs' : List Expr} {scope : Scope} {py pos spos : Pos} (hy : m.N[i]? = some y) (hl : m.sc.names.lookup y = some .local)
    (hline : (py.line == pos.line) = true) (hown2 : (scope.names.any fun (n, k) => n == y && (k == .local || k == .cell)) = false) (hi : L2H.PIH X tg' it' (tI (gx X f) C wd nw call W src)) (ok : blkC m.N m.sc scope (ownP m own) = true)
    (hsub : ∀ i ∈ tg.slots, i ∈ own)
    (hg : ∀ (p0 : Addr × Obj), L2H.Hot1 X.A p0 → ∀ (s : Shared) (H : Hp) (D : Addr) (cl : List (Str × Addr)) (fp : List Addr), PG (EvHot.blkH X p0 s H scope (compEnvC scope cl D X.env) fp) tg' (tG (gx X f) C tg))
    (ht : ∀ (p0 : Addr × Obj), L2H.Hot1 X.A p0 → ∀ (s : Shared) (H : Hp) (D : Addr) (cl : List (Str × Addr)) (fp : List Addr), PTs (EvHot.blkH X p0 s H scope (compEnvC scope cl D X.env) fp) ifs' (tTB (gx X f) C wd nw call W0 .And ifs))
    (he : ∀ (p0 : Addr × Obj), L2H.Hot1 X.A p0 → ∀ (s : Shared) (H : Hp) (D : Addr) (cl : List (Str × Addr)) (fp : List Addr), PE (EvHot.blkH X p0 s H scope (compEnvC scope cl D X.env) fp) elt' (tE (gx X f) C wd nw call W0 elt)) (hs : starless it' = true) :
    PS X (.Assign [.Name y py] (.ListComp elt' [⟨tg', it', ifs', 0⟩] scope pos) spos) (tAsg (tE (gx X f) C wd nw call W (.lc own tg src ifs elt)) (gName i)) := by
  have okB : BlkOk X.N X.env.scope scope (ownP m own) := by
    rw [h.N, h.sc]
    exact blkOk_by ok
  have hl' : X.env.scope.names.lookup y = some .local := by rw [h.sc]; exact hl
  have hk' : X.env.scope.kind = .function := by rw [h.sc]; exact hk
  refine psImpL (EvHot.ps_setLcH (h.hot hh) h.nd (i := i) (by rw [h.N]; exact hy) hl' (sw_true hk' hl' hline hown2) hi okB hg ht he (fun x => by cases it' <;> first | rfl | cases hs)) fun D σ H len q => ?_
  exact lc_imp hsub q
end
end Ev

/-! Module dicts, slices, list(enumerate(..)), index, displays of dicts. -/
namespace Ev
open PySem PySem.Spec PyProof.Rows L2 LamX
section
variable {X : Cx} {pins : List (Addr × Obj)} {σ : L2.St}
/-- several new objects are laid at once -/
theorem lays {t' : Nat} {h' : Heap} : ∀ (L : List (Addr × HO)) {H : Hp} {s : Shared}, L2.Inv X pins σ H s → (∀ b u, s.heap.get? b = some u → h'.get? b = some u) →
    (∀ q ∈ L, s.heap.get? q.1 = none ∧ H q.1 = none ∧ ∀ (H2 : Hp) (h2 : Heap), h2.get? q.1 = h'.get? q.1 → ObjOk X.prog X.w H2 h2 q.1 q.2) → (L.map (·.1)).Nodup →
    ∃ H2 : Hp, L2.Inv X pins σ H2 { s with heap := h', toks := t' } ∧ (∀ b o, H b = some o → H2 b = some o) ∧ ∀ q ∈ L, H2 q.1 = some q.2
  | [], H, s, I, k, _, _ => ⟨H, I.kept k, fun _ _ e => e, fun _ hq => by cases hq⟩
  | q :: L, H, s, I, k, hL, nd => by
    obtain ⟨G, g1, g2⟩ := restrict h' fun b => (s.heap.get? b).isSome || decide (b = q.1)
    obtain ⟨e1, e2, e3⟩ := hL q List.mem_cons_self
    have gq : G.get? q.1 = h'.get? q.1 := g1 _ (by simp)
    have ks : ∀ b u, s.heap.get? b = some u → G.get? b = some u := fun b u e => by
      rw [g1 b (by simp [e])]
      exact k b u e
    have I1 : L2.Inv X pins σ (upd H q.1 q.2) { s with heap := G, toks := s.toks } := I.laidN ks e1 e2 (e3 _ _ gq)
    rw [List.map_cons, List.nodup_cons] at nd
    obtain ⟨H2, I2, k2, h2⟩ := lays (t' := t') L I1 (fun b u e => by
      have z : ((s.heap.get? b).isSome || decide (b = q.1)) = true := by
        cases z : (s.heap.get? b).isSome || decide (b = q.1) with
        | true => rfl
        | false =>
          have e' : G.get? b = some u := e
          rw [g2 b z] at e'
          cases e'
      rw [← g1 b z]
      exact e) (fun r hr => by
      obtain ⟨r1, r2, r3⟩ := hL r (List.mem_cons_of_mem _ hr)
      have ne : r.1 ≠ q.1 := fun z => nd.1 (z ▸ List.mem_map_of_mem hr)
      refine ⟨g2 _ (by simp [r1, ne]), by rw [upd_ne ne]; exact r2, r3⟩) nd.2
    refine ⟨H2, I2, fun b o e => k2 b o (by rw [upd_ne (ne_of_none e e2)]; exact e), fun r hr => ?_⟩
    rcases List.mem_cons.mp hr with rfl | hr
    · exact k2 _ _ upd_same
    · exact h2 r hr
end
section
variable {X : Cx} {e : Expr} {te : TE}
def tLse (K : PySem.W.Frag) (te : TE) : TE := fun σ H Q => te σ H fun v H1 => ∃ a xs, v = .ref a ∧ SqT K H1 a xs ∧ xs.length ≤ sizeLine ∧
  ∀ (H2 : Hp) (p : Addr) (Ts : List Addr), (∀ b o, H1 b = some o → H2 b = some o) → H1 p = none → H2 p = some (.lst (Ts.map V.ref)) → Ts.length = xs.length → (∀ (i : Nat) T x, Ts[i]? = some T → xs[i]? = some x → H2 T = some (.tup [.int (i : Int), x])) → Q (.ref p) H2
theorem pe_lse0 {p p2 pos pos2 : Pos} (hc : X.calm = true) (hg : Gl X "list") (hm : X.mg "list" = none) (hg2 : Gl X "enumerate") (hm2 : X.mg "enumerate" = none) (he : PE X e te) (hs : starless e = true) :
    PE X (.Call (.Name "list" p) [.Call (.Name "enumerate" p2) [e] [] pos2] [] pos) (tLse X.K te) := by
  refine ⟨fun pins s σ H Q I h => ?_⟩
  have ha : PA X [e] (tCons te tNil) := pa_cons he pa_nil (star_of hs)
  have inner : wpAny (model X.prog X.w) X.A (eval (.Call (.Name "enumerate" p2) [e] [] pos2) X.env) (fun v z => wpAny (model X.prog X.w) X.A (call (.type "list") [v]) (EP X pins σ Q) X.xe z) X.xe s := by
    refine Call_ (ld_blt I hg2 hm2 boot_enumerate (PyProof.Rows.callWith_type1 (thn (ha.run pos2 pins s σ H (fun vs H1 => match vs with | [v] => (∃ a xs, v = .ref a ∧ SqT X.K H1 a xs ∧ xs.length ≤ sizeLine ∧
      ∀ (H2 : Hp) (p : Addr) (Ts : List Addr), (∀ b o, H1 b = some o → H2 b = some o) → H1 p = none → H2 p = some (.lst (Ts.map V.ref)) → Ts.length = xs.length → (∀ (i : Nat) T x, Ts[i]? = some T → xs[i]? = some x → H2 T = some (.tup [.int (i : Int), x])) → Q (.ref p) H2) | _ => False) I h) fun us s1 ⟨vs, H1, I1, r1, q1⟩ => ?_) (star_of hs) rfl))
    · match vs, r1, q1 with
      | [v], r1, ⟨a, xs, ea, hq, hl, k⟩ =>
      subst ea
      cases r1 with
      | cons r rr =>
      cases rr
      cases r
      obtain ⟨its, rv, pt, hz⟩ := I1.tuple hq
      have hlen := rv.length
      refine EvEnum.list_enum (I1.ok.hd hc) (items := its.toArray) pt (by rw [List.size_toArray, ← hlen]; exact hl) fun h1 tk L acc1 c1 k1 hL hget hacc => ?_
      have sz : acc1.size = xs.length := by rw [hacc.size, List.size_toArray, hlen]
      let ad : Value → Addr := fun v => match v with | .ref T => T | _ => 0
      let Ts : List Addr := acc1.toList.map ad
      have lT : Ts.length = xs.length := by simp [Ts, sz]
      have at_ : ∀ (i : Nat), i < xs.length → ∃ T tk0 x u, Ts[i]? = some T ∧ acc1[i]? = some (.ref T) ∧ xs[i]? = some x ∧ RelV x u ∧ h1.get? T = some { cls := .type "tuple", data := .seq #[.int (i : Int) tk0, u] } ∧ L ≤ T ∧ T ≠ L := fun i hi => by
        have hi2 : i < acc1.size := by omega
        obtain ⟨T, tk0, u, e1, e2, e3, e4, e5⟩ := hacc.pair i acc1[i] (by simp [hi2])
        have e2' : its[i]? = some u := by simpa using e2
        have hx : xs[i]? = some xs[i] := by simp [hi]
        obtain ⟨u', f1, f2⟩ := rv.get hx
        rw [e2'] at f1
        cases f1
        refine ⟨T, tk0, xs[i], u, ?_, ?_, hx, f2, e3, e4, e5⟩
        · simp only [Ts, List.getElem?_map, Array.getElem?_toList]
          rw [show acc1[i]? = some acc1[i] by simp [hi2], e1]
          rfl
        · rw [show acc1[i]? = some acc1[i] by simp [hi2], e1]
      have objs := lays (X := X) (pins := pins) (σ := σ) (h' := h1) (t' := tk) ((L, HO.lst (Ts.map V.ref)) :: (List.range xs.length).map fun i => (Ts.getD i 0, HO.tup [.int (i : Int), xs.getD i .non])) I1 k1 (fun q hq' => ?_) ?_
      · obtain ⟨H2, I2, k2, h2⟩ := objs
        refine ⟨.ref L, H2, I2, rfl, k H2 L Ts k2 (I1.hok.fresh hL) (h2 _ List.mem_cons_self) lT fun i T x hT hx => ?_⟩
        have hi : i < xs.length := (List.getElem?_eq_some_iff.mp hx).1
        have z := h2 (Ts.getD i 0, HO.tup [.int (i : Int), xs.getD i .non]) (List.mem_cons_of_mem _ (List.mem_map.mpr ⟨i, List.mem_range.mpr hi, rfl⟩))
        simp only [List.getD_eq_getElem?_getD, hT, hx, Option.getD_some] at z
        exact z
      · have none_of : ∀ {b : Addr}, s1.heap.objs.size ≤ b → s1.heap.get? b = none := fun {b} hb => by
          cases e : s1.heap.get? b with
          | none => rfl
          | some o => exact absurd (Heap.lt_size e) (Nat.not_lt.mpr hb)
        rcases List.mem_cons.mp hq' with rfl | hm
        · refine ⟨none_of hL, I1.hok.fresh hL, fun H2 h2 e => ⟨?_, acc1.toList, c1, ?_, ?_⟩⟩
          · rw [List.length_map, lT]
            exact hl
          · refine L2.vals_of_at (by simp [Ts]) fun j x u h3 h4 => ?_
            have hj : j < xs.length := by
              have := (List.getElem?_eq_some_iff.mp h4).1
              simp at this
              omega
            obtain ⟨T, _, _, _, f1, f2, _⟩ := at_ j hj
            rw [List.getElem?_map, f1] at h3
            rw [Array.getElem?_toList, f2] at h4
            cases h3
            cases h4
            rfl
          · rw [Array.toArray_toList]
            exact e.trans hget
        · obtain ⟨i, hi, rfl⟩ := List.mem_map.mp hm
          obtain ⟨T, tk0, x, u, f1, f2, f3, f4, f5, f6, f7⟩ := at_ i (List.mem_range.mp hi)
          have eT : Ts.getD i 0 = T := by simp [List.getD_eq_getElem?_getD, f1]
          have ex : xs.getD i .non = x := by simp [List.getD_eq_getElem?_getD, f3]
          rw [eT, ex]
          refine ⟨none_of (Nat.le_trans hL f6), I1.hok.fresh (Nat.le_trans hL f6), fun H2 h2 e => ⟨by show 2 ≤ sizeLine; decide, [.int (i : Int) tk0, u], .cons ⟨tk0, rfl⟩ (.cons f4 .nil), ⟨_, e.trans f5, rfl, _, rfl⟩⟩⟩
      · rw [List.map_cons, List.nodup_cons, List.map_map]
        refine ⟨fun hm => ?_, ?_⟩
        · obtain ⟨i, hi, ei⟩ := List.mem_map.mp hm
          obtain ⟨T, tk0, x, u, f1, f2, f3, f4, f5, f6, f7⟩ := at_ i (List.mem_range.mp hi)
          have eT : Ts.getD i 0 = T := by simp [List.getD_eq_getElem?_getD, f1]
          have ei : Ts.getD i 0 = L := ei
          rw [eT] at ei
          exact f7 ei
        · rw [List.Nodup, List.pairwise_map]
          refine List.Pairwise.imp_of_mem (fun {i j} hi hj nij eij => nij ?_) List.nodup_range
          obtain ⟨T, _, _, _, f1, f2, _⟩ := at_ i (List.mem_range.mp hi)
          obtain ⟨T', _, _, _, f1', f2', _⟩ := at_ j (List.mem_range.mp hj)
          have eT : Ts.getD i 0 = T := by simp [List.getD_eq_getElem?_getD, f1]
          have eT' : Ts.getD j 0 = T' := by simp [List.getD_eq_getElem?_getD, f1']
          have eij : Ts.getD i 0 = Ts.getD j 0 := eij
          rw [eT, eT'] at eij
          subst eij
          exact hacc.apart i j T f2 f2'
  exact Call_ (ld_blt I hg hm boot_list (PyProof.Rows.callWith_type1 (args_cons (thn inner fun x s1 h1 => args_nil h1) rfl) rfl))
end

section
variable {p : PC} {f : Fx} {wd : Words} {nw : Str} {pr : List FD} {n : Nat} {X : Cx} {m : MC} {C : Addr} {W : WX} {call : Nat → List D → Cup → Re D}
/-- the pairs of an enumeration, as they stand -/
theorem Rps.pairs {H1 H2 : Hp} {A : Addr → Prop} (ext : Ext C H1 H2) : ∀ {ds : List D} {vs : List V} {Ts : List Addr} {i : Nat}, Rps (gx X f) C H1 A ds vs → Ts.length = vs.length →
    (∀ (j : Nat) T x, Ts[j]? = some T → vs[j]? = some x → H2 T = some (.tup [.int ((i + j : Nat) : Int), x])) → Rps (gx X f) C H2 A (Ev.pairs i ds) (Ts.map V.ref)
  | [], vs, Ts, i, r, hl, h => by
    have e : vs = [] := r
    subst e
    have e2 : Ts = [] := List.length_eq_zero_iff.mp hl
    subst e2
    rfl
  | d :: ds, vs, Ts, i, r, hl, h => by
    obtain ⟨v, vr, rfl, h1, h2⟩ := r
    cases Ts with
    | nil => simp at hl
    | cons T Ts =>
      have h0 := h 0 T v rfl rfl
      rw [Ev.pairs, List.map_cons]
      refine ⟨_, _, rfl, ⟨T, [.int ((i : Nat) : Int), v], rfl, SqT.of h0, _, _, rfl, rfl, _, _, rfl, ext.rp h1, rfl⟩, Rps.pairs ext h2 (by simpa using hl) fun j T' x e1 e2 => ?_⟩
      have z := h (j + 1) T' x (by simpa using e1) (by simpa using e2)
      have e : i + 1 + j = i + (j + 1) := by omega
      rw [e]
      exact z
theorem pe_lse' (h : XOk p f wd nw pr n X m) (hh : m.hot = false) {a : Ex} {x : Expr} {fi fj : Str} {q q2 pos pos2 : Pos} (hf : fi = "list") (hg : Ev.glb m.sc fi = true) (hm : X.mg fi = none) (hf2 : fj = "enumerate") (hg2 : Ev.glb m.sc fj = true) (hm2 : X.mg fj = none) (ha : PE X x (tE (gx X f) C wd nw call W a)) (hs : starless x = true) :
    PE X (.Call (.Name fi q) [.Call (.Name fj q2) [x] [] pos2] [] pos) (tE (gx X f) C wd nw call W (.lse a)) := by
  subst hf
  subst hf2
  refine peImp (pe_lse0 (h.calm hh) (h.glb hg) hm (h.glb hg2) hm2 ha hs) fun σ H Q q => ?_
  obtain ⟨env, u, A, rel, w, o⟩ := q
  rw [evE] at o
  refine ⟨env, u, A, rel, w, o.bind.imp fun d u1 o1 v H1 po => ?_⟩
  cases d with
  | tup ds =>
    obtain ⟨a1, vs, rfl, h1, h2⟩ := po.rp
    simp only [lseV] at o1
    split at o1
    · rename_i hz
      refine ⟨a1, vs, rfl, h1, by rw [← h2.length]; exact Nat.le_trans hz big_le, fun H2 L Ts k1 nL hL lT hT => ?_⟩
      have x : Ext C H1 H2 := ⟨⟨_, po.wd.cup⟩, ⟨_, k1 _ _ po.wd.cup⟩, fun b o e _ _ => k1 b o e⟩
      have w2 : Wd (gx X f) C H2 u1 := ⟨k1 _ _ po.wd.cup, po.wd.tabs.ext k1⟩
      refine o1 _ _ ⟨po.ext.trans x, w2, ⟨L, _, rfl, hL, .inr (po.ext.free L (NL.of nL)), (ne_of_none po.wd.cup nL).symm, Rps.pairs (i := 0) x h2 lT fun j T y e1 e2 => by rw [Nat.zero_add]; exact hT j T y e1 e2⟩, fun _ _ p' e => ?_⟩
      cases e
      exact po.ext.free L (NL.of nL)
    · exact o1.elim
  | _ => exact o1.elim

/-! ### index -/
theorem pe_idx' {a b : Ex} {x y : Expr} {apos cpos : Pos} (ha : PE X x (tE (gx X f) C wd nw call W a)) (hb : PE X y (tE (gx X f) C wd nw call W b)) (hs : starless y = true) (hp : plainBase x = true) (hl : (apos.endLine == cpos.line) = true) :
    PE X (.Call (.Attribute x "index" apos) [y] [] cpos) (tE (gx X f) C wd nw call W (.idx a b)) := by
  have hbase : attributeBase x "index" X.env (eval x X.env) = eval x X.env := by
    cases x <;> first | rfl | cases hp | skip
    rename_i fn xs ks p0
    cases xs with
    | nil => cases hp
    | cons _ _ => cases fn <;> rfl
  refine peImp (pe_bm PySem.F.plainAttrs_list PySem.F.slot_list_index PySem.F.type_list_index mt_index ha (pa_cons hb pa_nil (star_of hs)) hbase (by rw [star_of hs]; rfl) hl (star_of hs) rfl) fun σ H Q q => ?_
  obtain ⟨env, u, A, rel, w, o⟩ := q
  rw [evE] at o
  have rel' : RelE (gx X f) C H A env σ (a.fv ++ b.fv) := rel
  refine ⟨env, u, A, rel'.left, w, o.bind.imp fun d u1 o1 v H1 po => ?_⟩
  cases d with
  | lst ds =>
    obtain ⟨a1, vs, rfl, h1, h3, h4, h2⟩ := po.rp
    refine ⟨.inl ⟨rfl, vs, SqL.of h1⟩, env, u1, A, rel'.right.ext po.ext, po.wd, (o1.bind.up po.ext).imp fun d2 u2 o2 w2 H2 ps => ?_⟩
    simp only [idxV] at o2
    cases e1 : d2.sc with
    | none =>
      rw [e1] at o2
      exact o2.elim
    | some v2 =>
      cases e2 : scs ds with
      | none =>
        rw [e1, e2] at o2
        exact o2.elim
      | some vs2 =>
        simp only [e1, e2] at o2
        obtain ⟨s1, s2⟩ := ps.rp.sc e1
        obtain ⟨s3, s4⟩ := h2.scs e2
        subst s1
        subst s3
        cases e3 : vs.findIdx? fun z => eqV z w2 with
        | none =>
          rw [e3] at o2
          exact o2.elim
        | some j =>
          simp only [e3] at o2
          obtain ⟨hj, j1, j2⟩ := List.findIdx?_eq_some_iff_getElem.mp e3
          refine ⟨a1, vs, w2, j, vs[j], rfl, rfl, SqL.of (ps.ext.lst h1 h4), s2, s4, by simp [hj], j1, fun m' z' hm hz => ?_, o2 _ _ ⟨po.ext.trans ps.ext, ps.wd, rfl, fun z => by cases z⟩⟩
          have hm2 : m' < vs.length := by omega
          have z := j2 m' hm
          rw [List.getElem?_eq_getElem hm2] at hz
          cases hz
          simpa using z
  | _ => exact o1.elim

/-! ### slices -/
theorem Rps.take {H : Hp} {A : Addr → Prop} : ∀ {k : Nat} {ds : List D} {vs : List V}, Rps (gx X f) C H A ds vs → Rps (gx X f) C H A (ds.take k) (vs.take k)
  | 0, _, _, _ => by
    rw [List.take_zero, List.take_zero]
    rfl
  | k + 1, [], vs, h => by
    have e : vs = [] := h
    subst e
    exact h
  | k + 1, d :: ds, vs, h => by
    obtain ⟨v, r, rfl, h1, h2⟩ := h
    exact ⟨v, _, rfl, h1, Rps.take h2⟩
theorem Rps.drop {H : Hp} {A : Addr → Prop} : ∀ {k : Nat} {ds : List D} {vs : List V}, Rps (gx X f) C H A ds vs → Rps (gx X f) C H A (ds.drop k) (vs.drop k)
  | 0, _, _, h => h
  | k + 1, [], vs, h => by
    have e : vs = [] := h
    subst e
    exact h
  | k + 1, d :: ds, vs, h => by
    obtain ⟨v, r, rfl, h1, h2⟩ := h
    show Rps (gx X f) C H A (ds.drop k) (r.drop k)
    exact Rps.drop h2
theorem Rps.cut {H : Hp} {A : Addr → Prop} {ds : List D} {vs : List V} (h : Rps (gx X f) C H A ds vs) (lo hi : Option Int) : Rps (gx X f) C H A (cutG ds lo hi) (cutV vs lo hi) := by
  unfold cutG cutV
  rw [← h.length]
  exact Rps.take (Rps.drop h)
theorem cutG_whole {α : Type} {xs : List α} {lo hi : Option Int} (h : HT.sIx xs.length 0 lo = 0 ∧ HT.sIx xs.length xs.length hi = xs.length) : cutG xs lo hi = xs := by
  unfold cutG
  rw [h.1, h.2]
  simp
/-- the reading of a slice's part -/
def tP (g : G) (C : Addr) (wd : Words) (nw : Str) (call : Nat → List D → Cup → Re D) (W : WX) (e : Ex) : TO := fun σ H Q => ∃ env u A, RelE g C H A env σ e.fv ∧ Wd g C H u ∧ Out g C W σ H (evE wd nw call e env u) fun d u' => ∃ o, partE e d = some o ∧ ∀ H', Ext C H H' → Wd g C H' u' → Q o H'
theorem poImp {e : Option Expr} {t t' : TO} (h : PO X e t) (k : ∀ σ H Q, t' σ H Q → t σ H Q) : PO X e t' := ⟨fun pins s σ H Q I q => h.run pins s σ H Q I (k σ H Q q)⟩
theorem po_no {e : Ex} (h : isNonC e = true) : PO X none (tP (gx X f) C wd nw call W e) := by
  refine poImp po_none fun σ H Q q => ?_
  obtain ⟨env, u, A, rel, w, o⟩ := q
  cases e <;> first | cases h | skip
  rename_i d
  cases d <;> first | cases h | skip
  simp only [evE] at o
  obtain ⟨o', eo, k⟩ := o
  have eo : some none = some o' := eo
  cases eo
  exact k H w.refl w
theorem po_so {e : Ex} {x : Expr} (hn : isNonC e = false) (h : PE X x (tE (gx X f) C wd nw call W e)) : PO X (some x) (tP (gx X f) C wd nw call W e) := by
  refine poImp (po_some h) fun σ H Q q => ?_
  obtain ⟨env, u, A, rel, w, o⟩ := q
  refine ⟨env, u, A, rel, w, o.imp fun d u1 ⟨o', eo, k⟩ v H1 po => ?_⟩
  unfold partE at eo
  rw [hn] at eo
  cases d with
  | int i =>
    have ev : v = .int i := po.rp
    cases eo
    exact ⟨i, ev, k H1 po.ext po.wd⟩
  | _ => cases eo
theorem pe_sl' {a lo hi : Ex} {x : Expr} {l u : Option Expr} {p2 pos : Pos} (ha : PE X x (tE (gx X f) C wd nw call W a)) (hl : PO X l (tP (gx X f) C wd nw call W lo)) (hu : PO X u (tP (gx X f) C wd nw call W hi)) :
    PE X (.Subscript x (.Slice l u none p2) pos) (tE (gx X f) C wd nw call W (.sl a lo hi)) := by
  refine peImp (pe_slice (sl_list.or (sl_tupA.or sl_str)) ha hl hu) fun σ H Q q => ?_
  obtain ⟨env, u, A, rel, w, o⟩ := q
  rw [evE] at o
  have rel' : RelE (gx X f) C H A env σ (a.fv ++ (lo.fv ++ hi.fv)) := rel
  refine ⟨env, u, A, rel'.left, w, o.bind.imp fun d u1 o1 v H1 po => ?_⟩
  refine ⟨env, u1, A, rel'.right.left.ext po.ext, po.wd, (o1.bind.up po.ext).imp fun d2 u2 o2 => ?_⟩
  cases e2 : partE lo d2 with
  | none =>
    simp only [e2] at o2
    exact o2.elim
  | some l' =>
    simp only [e2] at o2
    refine ⟨l', rfl, fun H2 x2 w2 => ?_⟩
    have E2 := po.ext.trans x2
    refine ⟨env, u2, A, rel'.right.right.ext E2, w2, (o2.bind.up E2).imp fun d3 u3 o3 => ?_⟩
    cases e3 : partE hi d3 with
    | none =>
      simp only [e3, slV] at o3
      exact o3.elim
    | some h' =>
      refine ⟨h', rfl, fun H3 x3 w3 => ?_⟩
      have E3 := E2.trans x3
      have r3 := (x2.trans x3).rp po.rp
      simp only [e3] at o3
      cases d <;> first | exact o3.elim | skip
      · rename_i z
        have r3 : v = .str z := r3
        simp only [slV] at o3
        split at o3
        · rename_i hz
          exact .inr (.inr ⟨z, r3, Nat.le_trans hz big_le, o3 _ _ ⟨E3, w3, rfl, fun _ ed => by cases ed⟩⟩)
        · exact o3.elim
      · rename_i ds
        obtain ⟨a1, vs, rfl, h1, h2⟩ := r3
        have lv := h2.length
        refine .inr (.inl ⟨a1, vs, rfl, h1, fun hw => ?_, fun hw q nq => ?_⟩)
        · rw [← lv] at hw
          exact o3 _ _ ⟨E3, w3, by rw [cutG_whole hw]; exact ⟨a1, vs, rfl, h1, h2⟩, fun _ ed => by cases ed⟩
        · exact o3 _ _ ⟨E3.trans (w3.newX nq), w3.newW nq, ⟨q, _, rfl, SqT.of upd_same, (w3.newX nq).rps (Rps.cut h2 l' h')⟩, fun _ ed => by cases ed⟩
      · rename_i ds
        obtain ⟨a1, vs, rfl, h1, h3, h4, h2⟩ := r3
        refine .inl ⟨a1, vs, rfl, SqL.of h1, fun q nq => ?_⟩
        refine o3 _ _ ⟨E3.trans (w3.newX nq), w3.newW nq, ⟨q, _, rfl, upd_same, .inr (E3.free q (NL.of nq)), (ne_of_none w3.cup nq).symm, (w3.newX nq).rps (Rps.cut h2 l' h')⟩, fun _ _ p' e => ?_⟩
        cases e
        exact E3.free q (NL.of nq)

/-! ### displays of dicts -/
def trsOf (g : G) (C : Addr) (wd : Words) (nw : Str) (call : Nat → List D → Cup → Re D) (W : WX) : List Ex → List (TE × TE)
  | k :: e :: r => (tE g C wd nw call W k, tE g C wd nw call W e) :: trsOf g C wd nw call W r
  | _ => []
theorem pps_of {pos : Pos} : ∀ {ks : List (Option Expr)} {vs : List Expr} {es : List Ex}, (ks.all fun k => k.isSome) = true → ks.length = vs.length → Paired (fun e x => PE X x (tE (gx X f) C wd nw call W e)) es (flatKV ks vs) → PPs X pos ks vs (trsOf (gx X f) C wd nw call W es)
  | [], [], es, _, _, h => by
    cases h
    exact pps_nil
  | [], _ :: _, _, _, hl, _ => by simp at hl
  | _ :: _, [], _, _, hl, _ => by simp at hl
  | none :: _, _ :: _, _, ha, _, _ => by simp at ha
  | some k :: ks, v :: vs, es, ha, hl, h => by
    cases h with
    | cons h1 h =>
    cases h with
    | cons h2 h => exact pps_cons h1 h2 (pps_of (by simpa using ha) (by simpa using hl) h)
theorem walk_pairs {σ : L2.St} {R : List (V × V) → Hp → Prop} : ∀ {es : List Ex} {H0 : Hp} {A : Addr → Prop} {env : En} {u : Cup} {P : List D → Cup → Prop}, es.length % 2 = 0 → RelE (gx X f) C H0 A env σ (Ex.fvs es) → Wd (gx X f) C H0 u → Out (gx X f) C W σ H0 (evL wd nw call es env u) P →
    (∀ ds u' ps H2, P ds u' → Ext C H0 H2 → Wd (gx X f) C H2 u' → Rps (gx X f) C H2 (fun a => A a ∨ NL H0 a) (evens ds) (ps.map (·.1)) → Rps (gx X f) C H2 (fun a => A a ∨ NL H0 a) (odds ds) (ps.map (·.2)) → R ps H2) → tPairs (trsOf (gx X f) C wd nw call W es) σ H0 R
  | [], H0, A, env, u, P, _, rel, w, o, k => by
    simp only [evL] at o
    exact k [] u [] H0 o w.refl w rfl rfl
  | [_], _, _, _, _, _, h, _, _, _, _ => by simp at h
  | a :: b :: es, H0, A, env, u, P, hl, rel, w, o, k => by
    have rel' : RelE (gx X f) C H0 A env σ (a.fv ++ (b.fv ++ Ex.fvs es)) := rel
    rw [evL] at o
    refine ⟨env, u, A, rel'.left, w, o.bind.imp fun d u1 o1 v H1 po => ?_⟩
    rw [evL] at o1
    refine ⟨env, u1, A, rel'.right.left.ext po.ext, po.wd, (o1.bind.bind.up po.ext).imp fun d2 u2 o2 v2 H2 ps => ?_⟩
    have E2 := po.ext.trans ps.ext
    refine walk_pairs (es := es) (by simp at hl; omega) (rel'.right.right.ext E2) ps.wd (o2.bind.up E2) fun ds u' qs H3 hp x3 w3 r1 r2 => ?_
    have up : ∀ {a : Addr}, (A a ∨ NL H2 a) → (A a ∨ NL H0 a) := fun {a} h => h.elim .inl fun n => .inr (E2.free a n)
    refine k (d :: d2 :: ds) u' ((v, v2) :: qs) H3 hp (E2.trans x3) w3 ⟨v, _, rfl, (ps.ext.trans x3).rp po.rp, r1.mono fun a => up⟩ ⟨v2, _, rfl, (x3.rp ps.rp).mono fun a h => h.elim .inl fun n => .inr (po.ext.free a n), r2.mono fun a => up⟩
theorem Rps.keys {H : Hp} {A : Addr → Prop} : ∀ {ds : List D} {vs : List V} {js : List L2.Key}, Rps (gx X f) C H A ds vs → Ev.keys ds = some js → vs = js.map kV
  | [], vs, js, h, e => by
    cases e
    exact h
  | d :: ds, vs, js, h, e => by
    obtain ⟨v, r, rfl, h1, h2⟩ := h
    simp only [Ev.keys] at e
    split at e
    · rename_i k ks e1 e2
      cases e
      rw [h1.key e1, Rps.keys h2 e2]
      rfl
    · cases e
theorem mul_zip : ∀ {js : List L2.Key} {ps : List (V × V)}, ps.map (·.1) = js.map kV → ps = (js.zip (ps.map (·.2))).map fun kv => (kV kv.1, kv.2)
  | [], ps, h => by
    have e : ps = [] := by simpa using h
    subst e
    rfl
  | j :: js, [], h => by simp at h
  | j :: js, q :: ps, h => by
    rw [List.map_cons, List.map_cons] at h
    injection h with h1 h2
    rw [List.map_cons, List.zip_cons_cons, List.map_cons, ← mul_zip h2, ← h1]
theorem evens_len : ∀ {ds : List D} {k : Nat}, ds.length = 2 * k → (evens ds).length = k ∧ (odds ds).length = k
  | [], k, h => by
    have e : k = 0 := by
      simp at h
      omega
    subst e
    exact ⟨rfl, rfl⟩
  | [_], k, h => by
    simp at h
    omega
  | a :: b :: ds, k, h => by
    obtain ⟨i, rfl⟩ : ∃ i, k = i + 1 := ⟨k - 1, by simp at h; omega⟩
    obtain ⟨h1, h2⟩ := evens_len (ds := ds) (k := i) (by simp at h; omega)
    exact ⟨by rw [evens, List.length_cons, h1], by rw [odds, List.length_cons, h2]⟩
theorem evL_len {env : En} : ∀ {es : List Ex} {u u' : Cup} {ds : List D}, evL wd nw call es env u = .ok ds u' → ds.length = es.length
  | [], u, u', ds, h => by
    simp only [evL] at h
    cases h
    rfl
  | e :: es, u, u', ds, h => by
    simp only [evL] at h
    cases e1 : evE wd nw call e env u with
    | ok d u1 =>
      rw [e1] at h
      simp only [Re.bind] at h
      cases e2 : evL wd nw call es env u1 with
      | ok ds2 u2 =>
        rw [e2] at h
        cases h
        rw [List.length_cons, List.length_cons, evL_len e2]
      | exc _ _ => rw [e2] at h; cases h
      | bad => rw [e2] at h; cases h
    | exc _ _ => rw [e1] at h; cases h
    | bad => rw [e1] at h; cases h
theorem flatKV_len : ∀ {ks : List (Option Expr)} {vs : List Expr}, (ks.all fun k => k.isSome) = true → ks.length = vs.length → (flatKV ks vs).length = 2 * ks.length
  | [], [], _, _ => rfl
  | [], _ :: _, _, h => by simp at h
  | _ :: _, [], _, h => by simp at h
  | none :: _, _ :: _, h, _ => by simp at h
  | some k :: ks, v :: vs, h, hl => by
    rw [flatKV, List.length_cons, List.length_cons, List.length_cons, flatKV_len (by simpa using h) (by simpa using hl)]
    omega
theorem pe_dic' {es : List Ex} {ks : List (Option Expr)} {vs : List Expr} {pos : Pos} (h : Paired (fun e x => PE X x (tE (gx X f) C wd nw call W e)) es (flatKV ks vs)) (ha : (ks.all fun k => k.isSome) = true) (hl : ks.length = vs.length) (h15 : ks.length ≤ 15) :
    PE X (.Dict ks vs pos) (tE (gx X f) C wd nw call W (.dic es)) := by
  have hel : es.length = 2 * ks.length := by rw [Paired.length h, flatKV_len ha hl]
  have go : ∀ σ H Q, tE (gx X f) C wd nw call W (.dic es) σ H Q → tDisp (trsOf (gx X f) C wd nw call W es) σ H Q := fun σ H Q q p np => by
    obtain ⟨env, u, A, rel, w, o⟩ := q
    rw [evE] at o
    have x0 := w.newX (o := .dK []) np
    have w0 := w.newW (o := .dK []) np
    have npC : p ≠ C := (ne_of_none w.cup np).symm
    have rel2 : RelE (gx X f) C H (fun a => A a ∧ ¬ NL H a) env σ (Ex.fvs es) := fun i hi b d e => by
      obtain ⟨v, e1, e2⟩ := rel i hi b d e
      exact ⟨v, e1, e2.tight⟩
    refine walk_pairs (H0 := upd H p (.dK [])) (A := fun a => A a ∧ ¬ NL H a) (by omega) (rel2.ext x0) w0 (Out.up x0 o.bind) fun ds u' ps H2 hp x2 w2 r1 r2 => ?_
    cases ed : dicV ds with
    | none =>
      rw [ed] at hp
      exact hp.elim
    | some d =>
    rw [ed] at hp
    have hp : ∀ v' H', Post (gx X f) C H A true d u' v' H' → Q v' H' := hp
    unfold dicV at ed
    split at ed
    case h_2 => cases ed
    rename_i js ej
    split at ed
    case isFalse => cases ed
    rename_i hz
    cases ed
    have hp2 : H2 p = some (.dK []) := x2.keep _ _ upd_same npC fun _ e => by cases e
    have ek := r1.keys ej
    have ez := mul_zip ek
    have lens := evens_len hz.1
    have l2 : js.length = (ps.map (·.2)).length := by rw [← r2.length, lens.2]
    have nl : NL H p := NL.of np
    have r3 : Rps (gx X f) C H2 (fun a => (A a ∨ NL H a) ∧ a ≠ p) (odds ds) (ps.map (·.2)) := r2.mono fun a h => by
      rcases h with h | h
      · exact ⟨.inl h.1, fun e => h.2 (by rw [e]; exact nl)⟩
      · exact ⟨.inr (x0.free a h), fun e => h ⟨_, .dK [], by rw [e]; exact upd_same⟩⟩
    obtain ⟨a1, a2, a3, a4⟩ := Rps.merge (f := f) (X := X) (C := C) (H := H2) (A := fun a => (A a ∨ NL H a) ∧ a ≠ p) (js := js) (ks := []) (ds := []) (vs := []) rfl l2 rfl r3
    refine ⟨hp2, js.zip (ps.map (·.2)), ez, by rw [List.length_zip, ← l2]; omega, ?_⟩
    have a4 : mergeK [] (js.zip (ps.map (·.2))) = _ := a4
    rw [a4]
    generalize mergeD [] [] js (ps.map (·.2)) = mv at a1 a2 a3 a4 ⊢
    have mvT : ∀ a vs, SqT (gx X f).K H2 a vs → SqT (gx X f).K (upd H2 p (.dK (mv.1.zip mv.2))) a vs := fun a vs k => by
      rcases k with (k | ⟨o, k⟩) | k
      · exact .inl (.inl (by rw [upd_ne (fun z => by rw [z, hp2] at k; cases k)]; exact k))
      · exact .inl (.inr ⟨o, by rw [upd_ne (fun z => by rw [z, hp2] at k; cases k)]; exact k⟩)
      · exact .inr k
    refine hp _ _ ⟨⟨⟨_, w.cup⟩, ⟨_, by rw [upd_ne npC.symm]; exact w2.cup⟩, fun b o e n1 n2 => by rw [upd_ne (ne_of_none e np)]; exact (x0.trans x2).keep b o e n1 n2⟩, ⟨by rw [upd_ne npC.symm]; exact w2.cup, fun q hq => ?_⟩, ⟨p, mv.2, rfl, by rw [a1]; exact upd_same, .inr nl, npC, by rw [a1]; exact a2, Rps.move mvT (fun a o _ k1 k2 _ => ⟨by rw [upd_ne k2.2]; exact k1, k2.1⟩) _ _ a3⟩, fun _ _ p' e => ?_⟩
    · obtain ⟨pt, b1, b2, b3⟩ := w2.tabs q hq
      refine ⟨pt, by rw [upd_ne (fun z => by rw [z, hp2] at b1; cases b1)]; exact b1, b2, fun ps' cv hcv => ?_⟩
      obtain ⟨c0, c1, c2⟩ := b3 ps' cv hcv
      exact ⟨c0, c1, by rw [upd_ne (fun z => by rw [z, hp2] at c2; unfold CodeO at c2; cases c2)]; exact c2⟩
    · cases e
      exact nl
  cases ks with
  | nil =>
    have ev : vs = [] := List.length_eq_zero_iff.mp hl.symm
    subst ev
    have ee : es = [] := List.length_eq_zero_iff.mp hel
    subst ee
    refine peImp pe_dnewK fun σ H Q q p np => ?_
    obtain ⟨env, u, A, rel, w, o⟩ := q
    have o : ∀ v' H', Post (gx X f) C H A true (.dic [] []) u v' H' → Q v' H' := o
    refine o _ _ ⟨w.newX np, w.newW np, ⟨p, [], rfl, upd_same, .inr (NL.of np), (ne_of_none w.cup np).symm, rfl, rfl⟩, fun _ _ p' e => ?_⟩
    cases e
    exact NL.of np
  | cons k ks => exact peImp (pe_disp (pps_of ha hl h) ha hl (by simp) h15) go

/-! ### get of a module's dict -/
theorem kd_typ {a : Addr} {es : Array DictEntry} {k : Nat} {pins : List (Addr × Obj)} {σ : L2.St} {H : Hp} {s : Shared} (D : KDict X.K X.w a es k) (I : L2.Inv X pins σ H s) : s.TypeIs (.ref a) "dict" ∧ ∀ b, Value.ref a = .ref b → ∃ ob, s.heap.get? b = some ob ∧ ob.dict = none :=
  ⟨(PySem.W.mapOf_K (prog := X.prog) (w := X.w) I.kIn D.at_ D.lit).typeIs, fun b e => by
    cases e
    exact ⟨_, I.kIn _ _ D.at_, rfl⟩⟩
theorem pe_kget1 {a : Addr} {es : Array DictEntry} {k : Nat} {x : Str} {e : Expr} {te : TE} {q apos cpos : Pos} (hg : Gl X x) (hm : X.mg x = some (.ref a)) (D : KDict X.K X.w a es k) (ho : (x == ("__debug__" : Str)) = false) (he : PE X e te) (hs : starless e = true) (hl : (apos.endLine == cpos.line) = true) :
    PE X (.Call (.Attribute (.Name x q) "get" apos) [e] [] cpos) (fun σ H Q => te σ H fun y H1 => ∃ z r v, y = .str z ∧ PySem.W.nsIn X.K a z = some r ∧ RelV v (r.getD .none) ∧ Q v H1) := by
  have hx : PE X (.Name x q) (tC (.ref a)) := pe_glob (v := .ref a) hg hm rfl ho
  have m : M1 X (.Name x q) "get" apos e cpos := ⟨rfl, by rw [star_of hs]; rfl, hl, by rw [star_of hs]; rfl⟩
  refine ⟨fun pins s σ H Q I h => ?_⟩
  refine wpAny_Call_method m.base m.few m.line PySem.F.plainAttrs_dict PySem.F.slot_dict_get PySem.F.type_dict_get (thn (hx.run pins s σ H (fun v H1 => v = .ref a ∧ H1 = H) I ⟨rfl, rfl⟩) fun u s1 ⟨v, H1, I1, r1, ev, eH⟩ => ?_)
  subst ev
  subst eH
  obtain rfl : u = Value.ref a := r1
  refine ⟨(kd_typ D I1).1, (kd_typ D I1).2, ?_⟩
  rw [m.trees]
  refine Calls.callWith_builtin rfl (Calls.evalArgs_plain (Calls.spliced_cons (thn (he.run pins s1 σ H1 _ I1 h) fun iv s2 ⟨y, H2, I2, ry, z, r, v, ey, hr, rv, qq⟩ => Calls.spliced_nil ?_)))
  subst ey
  obtain ⟨t, rfl⟩ := (show ∃ t, iv = Value.str z t from ry)
  refine call_meetsIn PySem.F.slot_dict_get (kd_typ D I2).1 PySem.F.entry_dict_get (PySem.F.args_dict_get_2 _ _) (meets_dict_get (strKind X.prog X.w) a (strKind_is X.prog X.w z t) D.low) ⟨_, PySem.W.mapOf_K (prog := X.prog) (w := X.w) I2.kIn D.at_ D.lit, ?_⟩
  rw [PySem.W.find_K D.at_ hr]
  exact ⟨v, H2, I2.tok _, rv, qq⟩
theorem pe_kget2 {a : Addr} {es : Array DictEntry} {k : Nat} {x : Str} {e e2 : Expr} {te te2 : TE} {q apos cpos : Pos} (hg : Gl X x) (hm : X.mg x = some (.ref a)) (D : KDict X.K X.w a es k) (ho : (x == ("__debug__" : Str)) = false) (he : PE X e te) (he2 : PE X e2 te2) (hs : starless e = true) (hs2 : starless e2 = true) (hl : (apos.endLine == cpos.line) = true) :
    PE X (.Call (.Attribute (.Name x q) "get" apos) [e, e2] [] cpos) (fun σ H Q => te σ H fun y H1 => te2 σ H1 fun w H2 => ∃ z r v, y = .str z ∧ PySem.W.nsIn X.K a z = some r ∧ (match r with | some u => RelV v u | none => v = w) ∧ Q v H2) := by
  have hx : PE X (.Name x q) (tC (.ref a)) := pe_glob (v := .ref a) hg hm rfl ho
  have m : M2 X (.Name x q) "get" apos e e2 cpos := ⟨rfl, by rw [star_of hs, star_of hs2]; rfl, hl, by rw [star_of hs, star_of hs2]; rfl⟩
  refine ⟨fun pins s σ H Q I h => ?_⟩
  refine wpAny_Call_method m.base m.few m.line PySem.F.plainAttrs_dict PySem.F.slot_dict_get PySem.F.type_dict_get (thn (hx.run pins s σ H (fun v H1 => v = .ref a ∧ H1 = H) I ⟨rfl, rfl⟩) fun u s1 ⟨v, H1, I1, r1, ev, eH⟩ => ?_)
  subst ev
  subst eH
  obtain rfl : u = Value.ref a := r1
  refine ⟨(kd_typ D I1).1, (kd_typ D I1).2, ?_⟩
  rw [m.trees]
  refine Calls.callWith_builtin rfl (Calls.evalArgs_plain (Calls.spliced_cons (thn (he.run pins s1 σ H1 _ I1 h) fun iv s2 ⟨y, H2, I2, ry, qq⟩ => Calls.spliced_cons (thn (he2.run pins s2 σ H2 _ I2 qq) fun jv s3 ⟨w, H3, I3, rw3, z, r, v, ey, hr, rv, q3⟩ => Calls.spliced_nil ?_))))
  subst ey
  obtain ⟨t, rfl⟩ := (show ∃ t, iv = Value.str z t from ry)
  refine call_meetsIn PySem.F.slot_dict_get (kd_typ D I3).1 PySem.F.entry_dict_get (PySem.F.args_dict_get_3 _ _ _) (meets_dict_get_default (strKind X.prog X.w) a (strKind_is X.prog X.w z t) D.low jv) ⟨_, PySem.W.mapOf_K (prog := X.prog) (w := X.w) I3.kIn D.at_ D.lit, ?_⟩
  rw [PySem.W.find_K D.at_ hr]
  refine ⟨v, H3, I3.tok _, ?_, q3⟩
  cases r with
  | some u => exact rv
  | none =>
    have rv : v = w := rv
    rw [rv]
    exact rw3
theorem sc_rp {g : G} {H : Hp} {A : Addr → Prop} {d : D} {v : V} (h : d.sc = some v) : Rp g C H A d v := by
  cases d <;> first | (cases h; rfl) | cases h
theorem pe_kget' (h : XOk p f wd nw pr n X m) {x : Str} {t : List (Str × D)} {es : List Ex} {xs : List Expr} {q apos cpos : Pos} (hg : Ev.glb m.sc x = true) (ho : okN x = true) (hk : (p.kd.any fun q => decide (q.1 = x) && sameT q.2 t) = true)
    (hp : Paired (fun e x => PE X x (tE (gx X f) C wd nw call W e)) es xs) (hs : ∀ y ∈ xs, starless y = true) (hn : xs.length = 1 ∨ xs.length = 2) (hl : (apos.endLine == cpos.line) = true) :
    PE X (.Call (.Attribute (.Name x q) "get" apos) xs [] cpos) (tE (gx X f) C wd nw call W (.kget x t es)) := by
  obtain ⟨r, hr, e⟩ := List.any_eq_true.mp hk
  simp only [Bool.and_eq_true, decide_eq_true_eq] at e
  obtain ⟨a, hm, ⟨D1, D2, D⟩, tab⟩ := h.kd r hr
  rw [e.1] at hm
  rw [sameT_eq _ _ e.2] at tab
  have odb := (okN_of ho).1
  have get1 : ∀ {z : Str} {d0 : Ev.D}, ∃ ro, PySem.W.nsIn X.K a z = some ro ∧ ((ro = none ∧ (t.lookup z).getD d0 = d0) ∨ ∃ u v, ro = some u ∧ RelV v u ∧ ((t.lookup z).getD d0).sc = some v) := fun {z d0} => by
    obtain ⟨ro, h1, h2⟩ := tab z
    refine ⟨ro, h1, ?_⟩
    cases ro with
    | none =>
      cases el : t.lookup z with
      | none => exact .inl ⟨rfl, rfl⟩
      | some d =>
        rw [el] at h2
        exact h2.elim
    | some u =>
      cases el : t.lookup z with
      | none =>
        rw [el] at h2
        exact h2.elim
      | some d =>
        rw [el] at h2
        obtain ⟨v, h3, h4⟩ := h2
        exact .inr ⟨u, v, rfl, h4, h3⟩
  cases hp with
  | nil => simp at hn
  | cons p1 hp =>
  cases hp with
  | nil =>
    refine peImp (pe_kget1 (h.glb hg) hm D odb p1 (hs _ List.mem_cons_self) hl) fun σ H Q qq => ?_
    obtain ⟨env, u, A, rel, w, o⟩ := qq
    rw [evE, evL] at o
    have rel' : RelE (gx X f) C H A env σ (_ ++ []) := rel
    refine ⟨env, u, A, rel'.left, w, o.bind.bind.imp fun d u1 o1 v H1 po => ?_⟩
    simp only [evL, Re.bind] at o1
    cases d with
    | str z =>
      have ev : v = .str z := po.rp
      have o1 : ∀ v' H', Post (gx X f) C H A false ((t.lookup z).getD .non) u1 v' H' → Q v' H' := o1
      obtain ⟨ro, g1, g2⟩ := get1 (z := z) (d0 := .non)
      rcases g2 with ⟨e1, e2⟩ | ⟨u2, v2, e1, e2, e3⟩
      · subst e1
        exact ⟨z, none, .non, ev, g1, rfl, o1 _ _ ⟨po.ext, po.wd, by rw [e2]; rfl, fun z => by cases z⟩⟩
      · subst e1
        exact ⟨z, _, v2, ev, g1, e2, o1 _ _ ⟨po.ext, po.wd, sc_rp e3, fun z => by cases z⟩⟩
    | _ => exact o1.elim
  | cons p2 hp =>
  cases hp with
  | cons _ _ => simp at hn
  | nil =>
    refine peImp (pe_kget2 (h.glb hg) hm D odb p1 p2 (hs _ List.mem_cons_self) (hs _ (List.mem_cons_of_mem _ List.mem_cons_self)) hl) fun σ H Q qq => ?_
    obtain ⟨env, u, A, rel, w, o⟩ := qq
    rw [evE, evL] at o
    have rel' : RelE (gx X f) C H A env σ (_ ++ (_ ++ [])) := rel
    refine ⟨env, u, A, rel'.left, w, o.bind.bind.imp fun d u1 o1 v H1 po => ?_⟩
    rw [evL] at o1
    refine ⟨env, u1, A, rel'.right.left.ext po.ext, po.wd, (o1.bind.bind.up po.ext).imp fun d2 u2 o2 w2 H2 ps => ?_⟩
    simp only [evL, Re.bind] at o2
    cases d with
    | str z =>
      have ev : v = .str z := po.rp
      have o2 : ∀ v' H', Post (gx X f) C H A false ((t.lookup z).getD d2) u2 v' H' → Q v' H' := o2
      obtain ⟨ro, g1, g2⟩ := get1 (z := z) (d0 := d2)
      have E2 := po.ext.trans ps.ext
      rcases g2 with ⟨e1, e2⟩ | ⟨u3, v3, e1, e2, e3⟩
      · subst e1
        exact ⟨z, none, w2, ev, g1, rfl, o2 _ _ ⟨E2, ps.wd, by rw [e2]; exact ps.rp.mono fun a h => h.elim .inl fun n => .inr (po.ext.free a n), fun z => by cases z⟩⟩
      · subst e1
        exact ⟨z, _, v3, ev, g1, e2, o2 _ _ ⟨E2, ps.wd, sc_rp e3, fun z => by cases z⟩⟩
    | _ => exact o2.elim
end
end Ev

/-! list(range(..)), X.get(..), what is never asked. -/
namespace Ev
open PySem PySem.Spec PyProof.Rows L2 LamX
section
variable {p : PC} {f : Fx} {wd : Words} {nw : Str} {pr : List FD} {n : Nat} {X : Cx} {m : MC} {C : Addr} {W : WX} {call : Nat → List D → Cup → Re D}
theorem pe_never {x : Expr} : PE X x (tE (gx X f) C wd nw call W .never) := by
  refine ⟨fun pins s σ H Q I q => ?_⟩
  obtain ⟨env, u, A, rel, w, o⟩ := q
  rw [evE] at o
  exact o.elim
theorem rg_rps {g : G} {H : Hp} {A : Addr → Prop} {a b : Int} : Rps g C H A (range2 a b) (rgV a b) := by
  unfold range2 rgV
  induction List.range (b - a).toNat with
  | nil => rfl
  | cons i r ih => exact ⟨_, _, rfl, rfl, ih⟩
theorem lrg_post {H H2 : Hp} {A : Addr → Prop} {u : Cup} {a b : Int} {q : Addr} (hE : Ext C H H2) (hW : Wd (gx X f) C H2 u) (nq : H2 q = none) : Post (gx X f) C H A true (.lst (range2 a b)) u (.ref q) (upd H2 q (.lst (rgV a b))) := by
  refine ⟨hE.trans (hW.newX nq), hW.newW nq, ⟨q, _, rfl, upd_same, .inr (hE.free q (NL.of nq)), (ne_of_none hW.cup nq).symm, rg_rps⟩, fun _ _ p e => ?_⟩
  cases e
  exact hE.free q (NL.of nq)
theorem rg_ok {a b : Int} (h1 : smallI a = true) (h2 : smallI b = true) : RgOk a b := by
  obtain ⟨i1, i2⟩ := smallI_iff h1
  obtain ⟨j1, j2⟩ := smallI_iff h2
  exact ⟨by omega, by omega, by omega, by omega, by omega⟩
theorem pe_lrg2' (h : XOk p f wd nw pr n X m) (hh : m.hot = false) {a b : Ex} {x y : Expr} {fi fj : Str} {q q2 pos pos2 : Pos} (hf : fi = "list") (hg : Ev.glb m.sc fi = true) (hm : X.mg fi = none) (hf2 : fj = "range") (hg2 : Ev.glb m.sc fj = true) (hm2 : X.mg fj = none)
    (ha : PE X x (tE (gx X f) C wd nw call W a)) (hb : PE X y (tE (gx X f) C wd nw call W b)) (hs : starless x = true) (hs2 : starless y = true) : PE X (.Call (.Name fi q) [.Call (.Name fj q2) [x, y] [] pos2] [] pos) (tE (gx X f) C wd nw call W (.lrg a b)) := by
  subst hf
  subst hf2
  refine peImp (pe_listRg (h.calm hh) (h.glb hg) hm (prg_2 (h.glb hg2) hm2 ha hb (star_of hs) (star_of hs2) (by rw [star_of hs2]; rfl))) fun σ H Q qq => ?_
  obtain ⟨env, u, A, rel, w, o⟩ := qq
  rw [evE] at o
  have rel' : RelE (gx X f) C H A env σ (a.fv ++ b.fv) := rel
  refine ⟨env, u, A, rel'.left, w, o.bind.imp fun d u1 o1 v H1 po => ?_⟩
  refine ⟨env, u1, A, rel'.right.ext po.ext, po.wd, (o1.bind.up po.ext).imp fun d2 u2 o2 w2 H2 ps => ?_⟩
  unfold lrgV at o2
  cases d <;> first | exact o2.elim | skip
  cases d2 <;> first | exact o2.elim | skip
  rename_i i j
  have e1 : v = .int i := po.rp
  have e2 : w2 = .int j := ps.rp
  subst e1
  subst e2
  simp only at o2
  split at o2
  · rename_i hs
    rw [Bool.and_eq_true] at hs
    exact ⟨i, j, rfl, rfl, rg_ok hs.1 hs.2, fun q nq => o2 _ _ (lrg_post (po.ext.trans ps.ext) ps.wd nq)⟩
  · exact o2.elim
theorem pe_lrg1' (h : XOk p f wd nw pr n X m) (hh : m.hot = false) {a b : Ex} {y : Expr} {fi fj : Str} {q q2 pos pos2 : Pos} (hf : fi = "list") (hg : Ev.glb m.sc fi = true) (hm : X.mg fi = none) (hf2 : fj = "range") (hg2 : Ev.glb m.sc fj = true) (hm2 : X.mg fj = none) (hz : isZeroC a = true)
    (hb : PE X y (tE (gx X f) C wd nw call W b)) (hs2 : starless y = true) : PE X (.Call (.Name fi q) [.Call (.Name fj q2) [y] [] pos2] [] pos) (tE (gx X f) C wd nw call W (.lrg a b)) := by
  subst hf
  subst hf2
  obtain rfl : a = .c (.int 0) := by
    unfold isZeroC at hz
    split at hz
    · rw [beq_iff_eq] at hz
      rw [hz]
    · cases hz
  refine peImp (pe_listRg (h.calm hh) (h.glb hg) hm (prg_1 (h.glb hg2) hm2 hb (star_of hs2))) fun σ H Q qq => ?_
  obtain ⟨env, u, A, rel, w, o⟩ := qq
  rw [evE] at o
  have rel' : RelE (gx X f) C H A env σ ([] ++ b.fv) := rel
  simp only [evE, Re.bind] at o
  refine ⟨env, u, A, rel'.right, w, (Out.bind (f := fun y u2 => lift (lrgV (.int 0) y) u2) o).imp fun d2 u2 o2 w2 H2 ps => ?_⟩
  unfold lrgV at o2
  cases d2 <;> first | exact o2.elim | skip
  rename_i j
  have e2 : w2 = .int j := ps.rp
  subst e2
  simp only at o2
  split at o2
  · rename_i hs
    rw [Bool.and_eq_true] at hs
    exact ⟨j, rfl, rg_ok hs.1 hs.2, fun q nq => o2 _ _ (lrg_post ps.ext ps.wd nq)⟩
  · exact o2.elim
/-! ### X.get(k), X.get(k, d) -/
theorem bs_get {x : Expr} {env : Env} (h : plainBaseD x = true) : attributeBase x "get" env (eval x env) = eval x env := by
  cases x <;> first | rfl | cases h
theorem dic_isD {H : Hp} {A : Addr → Prop} {ks : List L2.Key} {ds : List D} {v : V} (r : Rp (gx X f) C H A (.dic ks ds) v) : ∃ a vs, v = .ref a ∧ H a = some (.dK (ks.zip vs)) ∧ a ≠ C ∧ ks.length = vs.length ∧ Rps (gx X f) C H A ds vs := by
  obtain ⟨a, vs, rfl, h1, _, h4, h3, h2⟩ := r
  exact ⟨a, vs, rfl, h1, h4, h3, h2⟩
theorem lk_none {α β : Type} {j : L2.Key} : ∀ {ks : List L2.Key} {xs : List α} {ys : List β}, xs.length = ys.length → lkK ks xs j = none → lkK ks ys j = none
  | [], _, _, _, _ => rfl
  | _ :: _, [], [], _, _ => rfl
  | _ :: _, [], _ :: _, h, _ => by simp at h
  | _ :: _, _ :: _, [], h, _ => by simp at h
  | k :: ks, x :: xs, y :: ys, h, e => by
    rw [lkK] at e ⊢
    split at e
    · cases e
    · rename_i hk
      rw [if_neg hk]
      exact lk_none (by simpa using h) e
/-- what stands at the key, or what is given -/
theorem lk_get {H H2 : Hp} {A : Addr → Prop} {u : Cup} {Q : VK} {ks : List L2.Key} {ds : List D} {vs : List V} {j : L2.Key} {d0 : D} {v0 : V} {fr : Bool} (hr : Rps (gx X f) C H2 (fun a => A a ∨ NL H a) ds vs) (h0 : Rp (gx X f) C H2 (fun a => A a ∨ NL H a) d0 v0) (hE : Ext C H H2) (hW : Wd (gx X f) C H2 u) (hfr : fr = false)
    (k : ∀ v' H', Post (gx X f) C H A fr ((lkK ks ds j).getD d0) u v' H' → Q v' H') : Q ((valV (ks.zip vs) j).getD v0) H2 := by
  subst hfr
  rw [valV_zip]
  cases el : lkK ks ds j with
  | none =>
    rw [el] at k
    rw [lk_none hr.length el]
    exact k _ _ ⟨hE, hW, h0, fun z => by cases z⟩
  | some d =>
    rw [el] at k
    obtain ⟨z, e2, e3⟩ := Rps.lkK hr el
    rw [e2]
    exact k _ _ ⟨hE, hW, e3, fun z => by cases z⟩
theorem pe_dget' (hu : X.A.units + 1 < cLine) {a : Ex} {es : List Ex} {x : Expr} {xs : List Expr} {apos cpos : Pos} (hb : plainBaseD x = true) (ha : PE X x (tE (gx X f) C wd nw call W a)) (hp : Paired (fun e x => PE X x (tE (gx X f) C wd nw call W e)) es xs) (hs : ∀ y ∈ xs, starless y = true) (hn : xs.length = 1 ∨ xs.length = 2) (hl : (apos.endLine == cpos.line) = true) :
    PE X (.Call (.Attribute x "get" apos) xs [] cpos) (tE (gx X f) C wd nw call W (.dget a es)) := by
  cases hp with
  | nil => simp at hn
  | @cons e1 y1 es xs p1 hp =>
  have s1 := hs y1 List.mem_cons_self
  cases hp with
  | nil =>
    have m1 : M1 X x "get" apos y1 cpos := ⟨bs_get hb, by rw [star_of s1]; rfl, hl, by rw [star_of s1]; rfl⟩
    refine peImp (pe_dget1 hu ha p1 m1) fun σ H Q qq => ?_
    obtain ⟨env, u, A, rel, w, o⟩ := qq
    rw [evE] at o
    have rel' : RelE (gx X f) C H A env σ (a.fv ++ (e1.fv ++ [])) := rel
    refine ⟨env, u, A, rel'.left, w, o.bind.imp fun d u1 o1 v H1 po => ?_⟩
    cases d with
    | dic ks ds =>
      obtain ⟨ad, vs, rfl, h1, hc, hk, hr⟩ := dic_isD po.rp
      simp only [evL] at o1
      refine ⟨ad, rfl, .inl ⟨_, .inl h1⟩, env, u1, A, rel'.right.left.ext po.ext, po.wd, (o1.bind.bind.up po.ext).imp fun d2 u2 o2 w2 H2 ps => ?_⟩
      have o2 : Out (gx X f) C W σ H (lift (dgetV (.dic ks ds) [d2]) u2 : Re D) (fun d u' => ∀ v' H', Post (gx X f) C H A false d u' v' H' → Q v' H') := o2
      simp only [dgetV] at o2
      cases ek : d2.key with
      | none =>
        rw [ek] at o2
        exact o2.elim
      | some j =>
        rw [ek] at o2
        have ew := ps.rp.key ek
        subst ew
        exact ⟨_, DGet.k (ps.ext.mu (.dK _) h1 hc), lk_get (d0 := .non) (v0 := .non) (ps.ext.rps hr) (show V.non = V.non from rfl) (po.ext.trans ps.ext) ps.wd rfl o2⟩
    | _ => exact o1.elim
  | @cons e2 y2 es xs p2 hp =>
  cases hp with
  | cons _ _ => simp at hn
  | nil =>
    have s2 := hs y2 (by simp)
    have m2 : M2 X x "get" apos y1 y2 cpos := ⟨bs_get hb, by rw [star_of s1, star_of s2]; rfl, hl, by rw [star_of s1, star_of s2]; rfl⟩
    refine peImp (pe_dget2 hu ha p1 p2 m2) fun σ H Q qq => ?_
    obtain ⟨env, u, A, rel, w, o⟩ := qq
    rw [evE] at o
    have rel' : RelE (gx X f) C H A env σ (a.fv ++ (e1.fv ++ (e2.fv ++ []))) := rel
    refine ⟨env, u, A, rel'.left, w, o.bind.imp fun d u1 o1 v H1 po => ?_⟩
    cases d with
    | dic ks ds =>
      obtain ⟨ad, vs, rfl, h1, hc, hk, hr⟩ := dic_isD po.rp
      simp only [evL] at o1
      refine ⟨ad, rfl, .inl ⟨_, .inl h1⟩, env, u1, A, rel'.right.left.ext po.ext, po.wd, (o1.bind.bind.up po.ext).imp fun d2 u2 o2 w2 H2 ps => ?_⟩
      refine ⟨env, u2, A, rel'.right.right.left.ext (po.ext.trans ps.ext), ps.wd, (o2.bind.bind.up (po.ext.trans ps.ext)).imp fun d3 u3 o3 w3 H3 pt => ?_⟩
      have o3 : Out (gx X f) C W σ H (lift (dgetV (.dic ks ds) [d2, d3]) u3 : Re D) (fun d u' => ∀ v' H', Post (gx X f) C H A false d u' v' H' → Q v' H') := o3
      simp only [dgetV] at o3
      have E2 := po.ext.trans ps.ext
      cases ek : d2.key with
      | none =>
        rw [ek] at o3
        exact o3.elim
      | some j =>
        rw [ek] at o3
        have ew := ps.rp.key ek
        subst ew
        exact ⟨_, DGet.k (pt.ext.mu (.dK _) (ps.ext.mu (.dK _) h1 hc) hc), lk_get (pt.ext.rps (ps.ext.rps hr)) (pt.rp.mono fun a ha => ha.elim .inl fun n => .inr (E2.free a n)) (E2.trans pt.ext) pt.wd rfl o3⟩
    | _ => exact o1.elim
/-! ### sorted(set(x)) -/
theorem sset_eq {ms ns : List Int} (h : ms.Pairwise (· < ·)) (hm : ∀ k, k ∈ ms ↔ k ∈ ns) : ms = sortI (dedI ns) := by
  have nd : ms.Nodup := h.imp fun {a b} q => by omega
  have pm : ms.Perm (dedI ns) := (List.perm_ext_iff_of_nodup nd (dedI_nodup ns)).mpr fun k => by rw [hm k, dedI_mem]
  exact sortI_eq pm (h.imp fun {a b} q => by omega)
theorem pe_sset' (h : XOk p f wd nw pr n X m) (hh : m.hot = false) {a : Ex} {x : Expr} {fi fj : Str} {q q2 pos pos2 : Pos} (hf : fi = "sorted") (hg : Ev.glb m.sc fi = true) (hm : X.mg fi = none) (hf2 : fj = "set") (hg2 : Ev.glb m.sc fj = true) (hm2 : X.mg fj = none)
    (ha : PE X x (tE (gx X f) C wd nw call W a)) (hs : starless x = true) : PE X (.Call (.Name fi q) [.Call (.Name fj q2) [x] [] pos2] [] pos) (tE (gx X f) C wd nw call W (.sset a)) := by
  subst hf
  subst hf2
  refine peImp (EvWk.pe_ssetI (h.calm hh) (h.glb hg) hm (h.glb hg2) hm2 ha (star_of hs)) fun σ H Q qq => ?_
  obtain ⟨env, u, A, rel, w, o⟩ := qq
  rw [evE] at o
  refine ⟨env, u, A, rel, w, o.bind.imp fun d u1 o1 v H1 po => ?_⟩
  unfold ssetV at o1
  cases d <;> first | exact o1.elim | skip
  rename_i ds
  obtain ⟨a1, vs, rfl, h1, _, _, h2⟩ := po.rp
  simp only at o1
  split at o1
  · rename_i hz
    split at o1
    · rename_i ns e1
      have ev := h2.allI e1
      refine ⟨a1, ns, rfl, SqL.of (by rw [← ev]; exact h1), ?_, fun ms b p1 p2 nb => ?_⟩
      · have l1 := h2.length
        rw [ev, List.length_map] at l1
        omega
      · rw [sset_eq p1 p2]
        exact o1 _ _ (newI po.ext po.wd nb)
    · exact o1.elim
  · exact o1.elim
end
end Ev

/-! The law's own word for an error; every expression. -/
namespace Ev
open PySem PySem.Spec PyProof.Rows L2 LamX
section
variable {p : PC} {f : Fx} {wd : Words} {nw : Str} {pr : List FD} {n : Nat} {X : Cx} {m : MC} {C : Addr} {W : WX} {call : Nat → List D → Cup → Re D}
theorem noArgs_of {ps : Arguments} (h : noArgs ps = true) : ps = ⟨[], [], none, [], [], none, []⟩ := by
  unfold noArgs at h
  split at h
  · rfl
  · cases h
theorem pe_err' (h : XOk p f wd nw pr n X m) (her : m.er = true) (hh : m.hot = false) {e : Ex} {ps : Arguments} {body : Expr} {scope : Scope} {q lpos pos : Pos} (hg : Ev.glb m.sc p.er = true) (ho : okN p.er = true) (hn : noArgs ps = true) (hl : lamSB m.sc scope = true)
    (hbody : ∀ (A : Around) (outer : List Env) (s : Shared) (H : Hp) (E : XK) (f' c' : Addr), Room (3 * n) (A.deeper (lamEnv X scope s.heap.objs.size f' c')) → PE (LamN.lamCx X A outer s H E scope f' c') body (tE (gx X f) C wd nw call (fun cls d _ H => E cls d H) e)) :
    PE X (.Call (.Name p.er q) [.Lambda ps body scope lpos] [] pos) (tE (gx X f) C wd nw call W (.err e)) := by
  obtain ⟨ge, c, P, pg, bg, sg, dV, kV, doc, pm, cdv, ct, oc, an, od, osl, Ng, a, h1, h2, h3, h4, h5, h6, h7, h8, h9, h10, h11, h12, h13, h14, h15, h16⟩ := h.er her hh
  obtain rfl := noArgs_of hn
  refine peImp (LamN.pe_lamcall (TT := TTe (gx X f) C wd nw) (t := fun E => tE (gx X f) C wd nw call (fun cls d _ H => E cls d H) e) (h.glb hg) h1 h2 h3 h4 h5 h6 h7 h8 (h11 C) h12 h13 h14 h15 h16 (lamS_by (by rw [h.sc]; exact hl)) rfl (fun _ _ _ _ _ => rfl) hbody (okN_of ho).1 h9 h10) fun σ H Q q => ?_
  obtain ⟨env, u, A, rel, w, o⟩ := q
  rw [evE] at o
  refine ⟨w.tabs, fun H1 eN T1 => ?_⟩
  have w1 : Wd (gx X f) C H1 u := ⟨eN _ _ w.cup (fun ps z => by cases z), T1⟩
  have e1 : Ext C H H1 := ⟨⟨_, w.cup⟩, ⟨_, w1.cup⟩, fun b o hb _ nt => eN b o hb nt⟩
  refine ⟨env, u, A, rel.ext e1, w1, ?_⟩
  cases eE : evE wd nw call e env u with
  | ok d u1 =>
    rw [eE] at o
    exact fun v H' po => o _ _ ⟨e1.trans po.ext, po.wd, rfl, fun z => by cases z⟩
  | exc k u1 =>
    rw [eE] at o
    refine fun H' eh wh => ⟨rfl, k, ?_⟩
    cases ew : wd k with
    | none =>
      simp only [ew] at o
      exact o.elim
    | some x =>
      simp only [ew] at o
      refine ⟨x, u1, rfl, rfl, wh, fun H'' kx kw => o _ _ ⟨(e1.trans eh).trans kx, kw, rfl, fun z => by cases z⟩⟩
  | bad =>
    rw [eE] at o
    exact o
/-- a name of a block that the look knows -/
theorem XOk.blk (h : XOk p f wd nw pr n X m) (hh : m.hot = false) {s : Shared} {H : Hp} {scope : Scope} {cl : List (Str × Addr)} {D : Addr} {fp : List Addr} (hk : m.sc.kind = .function) : XOk p f wd nw pr n (X.blk s H scope (compEnvC scope cl D X.env) fp) (m.blk scope) where
  N := h.N
  nd := h.nd
  sc := by
    show relabel scope X.env = relS scope m.sc
    rw [← h.sc]
    rfl
  calm := h.calm
  room := h.room
  hot := fun z => by
    have z' : m.hot = true := z
    rw [hh] at z'
    cases z'
  fn := h.fn
  kn := h.kn
  bt := h.bt
  gcd := h.gcd
  gc := h.gc
  kd := h.kd
  isx := fun z1 z2 => by
    have z3 : m.hot = true := z1
    have z4 : (m.er && !m.hot) = true := z2
    rw [z3] at z4
    simp at z4
  er := fun z zh => by
    have z : m.er = true := by
      have z4 : (m.er && !m.hot) = true := z
      rw [Bool.and_eq_true] at z4
      exact z4.1
    obtain ⟨ge, c, P, pg, bg, sg, dV, kV, doc, pm, cdv, ct, oc, an, od, osl, Ng, a, h1, h2, h3, h4, h5, h6, h7, h8, h9, h10, h11, h12, h13, h14, h15, h16⟩ := h.er z zh
    exact ⟨ge, c, P, pg, bg, sg, dV, kV, doc, pm, cdv, ct, oc, an, od, osl, Ng, a, h1, h2, h3, h4, h5, h6, h7, h8, h9, h10, h11, h12, h13, h14, h15, h16⟩
/-- a name of a block that the look knows -/
theorem XOk.blkH (h : XOk p f wd nw pr n X m) (hh : m.hot = true) {p0 : Addr × Obj} (h0 : L2H.Hot1 X.A p0) {s : Shared} {H : Hp} {scope : Scope} {cl : List (Str × Addr)} {D : Addr} {fp : List Addr} (hk : m.sc.kind = .function) : XOk p f wd nw pr n (EvHot.blkH X p0 s H scope (compEnvC scope cl D X.env) fp) (m.blk scope) where
  N := h.N
  nd := h.nd
  sc := by
    show relabel scope X.env = relS scope m.sc
    rw [← h.sc]
    rfl
  calm := h.calm
  room := h.room
  hot := fun _ => EvHot.blkH_hot h0
  fn := h.fn
  kn := h.kn
  bt := h.bt
  gcd := h.gcd
  gc := h.gc
  kd := h.kd
  isx := fun z1 z2 => by
    have z3 : m.hot = true := z1
    have z4 : (m.er && !m.hot) = true := z2
    rw [z3] at z4
    simp at z4
  er := fun z zh => by
    have z : m.er = true := by
      have z4 : (m.er && !m.hot) = true := z
      rw [Bool.and_eq_true] at z4
      exact z4.1
    obtain ⟨ge, c, P, pg, bg, sg, dV, kV, doc, pm, cdv, ct, oc, an, od, osl, Ng, a, h1, h2, h3, h4, h5, h6, h7, h8, h9, h10, h11, h12, h13, h14, h15, h16⟩ := h.er z zh
    exact ⟨ge, c, P, pg, bg, sg, dV, kV, doc, pm, cdv, ct, oc, an, od, osl, Ng, a, h1, h2, h3, h4, h5, h6, h7, h8, h9, h10, h11, h12, h13, h14, h15, h16⟩
theorem XOk.lam (h : XOk p f wd nw pr n X m) {A : Around} {outer : List Env} {s : Shared} {H : Hp} {E : XK} {scope : Scope} {f' c' : Addr} (hr : Room (3 * n) (A.deeper (lamEnv X scope s.heap.objs.size f' c'))) : XOk p f wd nw pr n (LamN.lamCx X A outer s H E scope f' c') ⟨m.N, scope, false, false⟩ where
  N := h.N
  nd := h.nd
  sc := rfl
  calm := fun _ => rfl
  room := fun _ => hr
  hot := fun z => by cases z
  fn := h.fn
  kn := h.kn
  bt := h.bt
  gcd := h.gcd
  gc := h.gc
  kd := h.kd
  isx := fun z => by cases z
  er := fun z => by cases z
theorem keep_cell {sc scope : Scope} {x : Str} {k : NameKind} (hk : k ≠ .free) (h : scope.names.lookup x = some k) : (relS scope sc).names.lookup x = some k := lookup_relS_keep hk h
theorem bt_of (h : XOk p f wd nw pr n X m) {x : Str} (e : (p.bt.any fun y => decide (y = x)) = true) : X.mg x = none := by
  rw [List.any_eq_true] at e
  obtain ⟨y, hy, e⟩ := e
  rw [decide_eq_true_eq] at e
  rw [← e]
  exact h.bt y hy
end

/-! ### every expression -/
section
variable {p : PC} {f : Fx} {wd : Words} {nw : Str} {pr : List FD} {n : Nat}
/-- plain truth -/
theorem pt_plain {X : Cx} {C : Addr} {W : WX} {call : Nat → List D → Cup → Re D} {e : Ex} {x : Expr} (h : PE X x (tE (gx X f) C wd nw call W e)) (he : ∀ whole, isTrue x X.env whole = (do let v ← whole; standAt x.pos; holding [v] (truthy v))) : PT X x (tT (gx X f) C wd nw call W e) :=
  ptImp (pt_val h he) fun σ H Q q => tT_tE q
def EOk (p : PC) (f : Fx) (wd : Words) (nw : Str) (pr : List FD) (n : Nat) (e : Ex) : Prop := ∀ (X : Cx) (m : MC) (C : Addr) (W : WX) (x : Expr), m.sc.kind = .function → XOk p f wd nw pr n X m → L2N.Takes X W → e.val = true → mE p m e x = true →
  PE X x (tE (gx X f) C wd nw (run wd nw pr n) W e) ∧ PT X x (tT (gx X f) C wd nw (run wd nw pr n) W e)
def LOk (p : PC) (f : Fx) (wd : Words) (nw : Str) (pr : List FD) (n : Nat) (es : List Ex) : Prop := ∀ (X : Cx) (m : MC) (C : Addr) (W : WX) (xs : List Expr), m.sc.kind = .function → XOk p f wd nw pr n X m → L2N.Takes X W → mL p m es xs = true →
  PA X xs (tL (gx X f) C wd nw (run wd nw pr n) W es) ∧ Paired (fun e x => PE X x (tE (gx X f) C wd nw (run wd nw pr n) W e)) es xs ∧ Paired (fun e x => PT X x (tT (gx X f) C wd nw (run wd nw pr n) W e)) es xs
/-- what is walked -/
theorem src_ok {src : Ex} {m : MC} {X : Cx} {C : Addr} {W : WX} {tg x : Expr} (hk : m.sc.kind = .function) (h : XOk p f wd nw pr n X m) (tk : L2N.Takes X W) (hv : src.val = true → EOk p f wd nw pr n src) (hr : ∀ a, src = .rng a → EOk p f wd nw pr n a) (hz : ∀ a b, src = .zip a b → EOk p f wd nw pr n a ∧ EOk p f wd nw pr n b) (hs : ∀ a, src = .sgn a → EOk p f wd nw pr n a) (hu : ∀ a, src = .enu a → EOk p f wd nw pr n a) (hr2 : ∀ a b, src = .rng2 a b → EOk p f wd nw pr n a ∧ EOk p f wd nw pr n b)
    (e : mE p m src x = true) (ez : (!src.isZip || isTup tg) = true) : PI X tg x (tI (gx X f) C wd nw (run wd nw pr n) W src) := by
  by_cases v : src.val = true
  · exact pi_val' (hv v X m C W x hk h tk v e).1
  · cases src with
    | rng a =>
      cases x with
      | Call fn xs ks pos =>
        cases fn <;> first | (simp [mE] at e; done) | skip
        cases ks with
        | cons _ _ => cases xs <;> simp [mE] at e
        | nil =>
        cases xs with
        | nil => simp [mE] at e
        | cons y ys =>
        cases ys with
        | cons _ _ => simp [mE] at e
        | nil =>
        simp only [mE, Bool.and_eq_true, decide_eq_true_eq] at e
        obtain ⟨⟨⟨e1, e2⟩, e3⟩, e4, e5⟩ := e
        exact pi_rng' h e1 e2 (bt_of h e3) (hr a rfl X m C W y hk h tk e4 e5).1 (mE_starless e5)
      | _ => simp [mE] at e
    | zip a b =>
      cases tg <;> first | (simp [Ex.isZip, isTup] at ez; done) | skip
      cases x with
      | Call fn xs ks pos =>
        cases fn <;> first | (simp [mE] at e; done) | skip
        cases ks with
        | cons _ _ => simp [mE] at e
        | nil =>
        cases xs with
        | nil => simp [mE] at e
        | cons y ys =>
        cases ys with
        | nil => simp [mE] at e
        | cons z zs =>
        cases zs with
        | cons _ _ => simp [mE] at e
        | nil =>
        simp only [mE, Bool.and_eq_true, decide_eq_true_eq] at e
        obtain ⟨⟨⟨⟨e1, e2⟩, e3⟩, e4, e5⟩, e6, e7⟩ := e
        exact pi_zip' h e1 e2 (bt_of h e3) ((hz a b rfl).1 X m C W y hk h tk e4 e5).1 ((hz a b rfl).2 X m C W z hk h tk e6 e7).1 (mE_starless e5) (mE_starless e7)
      | _ => simp [mE] at e
    | rng2 a b =>
      cases x with
      | Call fn xs ks pos =>
        cases fn <;> first | (simp [mE] at e; done) | skip
        cases ks with
        | cons _ _ => simp [mE] at e
        | nil =>
        cases xs with
        | nil => simp [mE] at e
        | cons y ys =>
        cases ys with
        | nil => simp [mE] at e
        | cons z zs =>
        cases zs with
        | cons _ _ => simp [mE] at e
        | nil =>
        simp only [mE, Bool.and_eq_true, decide_eq_true_eq] at e
        obtain ⟨⟨⟨⟨e1, e2⟩, e3⟩, e4, e5⟩, e6, e7⟩ := e
        exact pi_rng2' h e1 e2 (bt_of h e3) ((hr2 a b rfl).1 X m C W y hk h tk e4 e5).1 ((hr2 a b rfl).2 X m C W z hk h tk e6 e7).1 (mE_starless e5) (mE_starless e7)
      | _ => simp [mE] at e
    | sgn a =>
      simp only [mE, Bool.and_eq_true, Bool.not_eq_true'] at e
      obtain ⟨⟨e1, e2, e3⟩, e4⟩ := e
      exact pi_sgn' (hs a rfl X m C W x hk h tk e2 e3).1
    | enu a =>
      cases tg <;> first | (simp [Ex.isZip, isTup] at ez; done) | skip
      cases x with
      | Call fn xs ks pos =>
        cases fn <;> first | (simp [mE] at e; done) | skip
        cases ks with
        | cons _ _ => cases xs <;> simp [mE] at e
        | nil =>
        cases xs with
        | nil => simp [mE] at e
        | cons y ys =>
        cases ys with
        | cons _ _ => simp [mE] at e
        | nil =>
        simp only [mE, Bool.and_eq_true, decide_eq_true_eq] at e
        obtain ⟨⟨⟨e1, e2⟩, e3⟩, e4, e5⟩ := e
        exact pi_enu' h e1 e2 (bt_of h e3) (hu a rfl X m C W y hk h tk e4 e5).1 (mE_starless e5)
      | _ => simp [mE] at e
    | _ => exact absurd rfl v
theorem srcj_ok {src : Ex} {m : MC} {X : Cx} {C : Addr} {W : WX} {tg x : Expr} (hk : m.sc.kind = .function) (h : XOk p f wd nw pr n X m) (tk : L2N.Takes X W) (hv : src.val = true → EOk p f wd nw pr n src) (hr : ∀ a, src = .rng a → EOk p f wd nw pr n a) (hz : ∀ a b, src = .zip a b → EOk p f wd nw pr n a ∧ EOk p f wd nw pr n b) (hs : ∀ a, src = .sgn a → EOk p f wd nw pr n a) (hu : ∀ a, src = .enu a → EOk p f wd nw pr n a) (hr2 : ∀ a b, src = .rng2 a b → EOk p f wd nw pr n a ∧ EOk p f wd nw pr n b)
    (e : mE p m src x = true) (ez : (!src.isZip || isTup tg) = true) : PI X tg x (tJ (gx X f) C wd nw (run wd nw pr n) W src) := by
  by_cases v : src.val = true
  · exact pj_val' (hv v X m C W x hk h tk v e).1
  · refine pj_of ?_ (src_ok hk h tk hv hr hz hs hu hr2 e ez)
    cases src <;> first | rfl | exact absurd rfl v
end
end Ev

/-! Every expression keeps its reading. -/
namespace Ev
open PySem PySem.Spec PyProof.Rows L2 LamX
section
variable {p : PC} {f : Fx} {wd : Words} {nw : Str} {pr : List FD} {n : Nat}
theorem own_sub {own js : List Nat} (h : (js.all fun i => own.contains i) = true) : ∀ i ∈ js, i ∈ own := fun i hi => by simpa using List.all_eq_true.mp h i hi
theorem own_lt {own : List Nat} {k : Nat} (h : (own.all fun i => decide (i < k)) = true) : ∀ i ∈ own, i < k := fun i hi => by simpa using List.all_eq_true.mp h i hi
theorem loc_of {X : Cx} {m : MC} (h : XOk p f wd nw pr n X m) {s : Shared} {H : Hp} {scope : Scope} {cl : List (Str × Addr)} {D : Addr} {fp : List Addr} (x : Str) (e : loccell scope x = true) :
    Loc (X.blk s H scope (compEnvC scope cl D X.env) fp).env.scope x ∧ ((X.blk s H scope (compEnvC scope cl D X.env) fp).fn x = true ∨ (X.blk s H scope (compEnvC scope cl D X.env) fp).env.scope.names.lookup x = some .local) := by
  have rl : ∀ {k : NameKind}, k ≠ .free → scope.names.lookup x = some k → (X.blk s H scope (compEnvC scope cl D X.env) fp).env.scope.names.lookup x = some k := fun {k} hk q => by
    show (relabel scope X.env).names.lookup x = some k
    have z : (relS scope X.env.scope).names.lookup x = some k := lookup_relS_keep hk q
    exact z
  unfold loccell at e
  split at e
  · rename_i q
    exact ⟨.inl (rl (by decide) q), .inr (rl (by decide) q)⟩
  · rename_i q
    refine ⟨.inr (rl (by decide) q), .inl ?_⟩
    show (scope.names.lookup x == some .cell) = true
    rw [q]
    rfl
  · cases e
theorem rp {X : Cx} {C : Addr} {W : WX} {call : Nat → List D → Cup → Re D} {e : Ex} {x : Expr} (h : PE X x (tE (gx X f) C wd nw call W e)) (he : ∀ whole, isTrue x X.env whole = (do let v ← whole; standAt x.pos; holding [v] (truthy v))) :
    PE X x (tE (gx X f) C wd nw call W e) ∧ PT X x (tT (gx X f) C wd nw call W e) := ⟨h, pt_plain h he⟩
mutual
theorem e_ok : ∀ e : Ex, EOk p f wd nw pr n e
  | .v i => fun X m C W x hk h tk hv e => by
    cases x <;> first | (cases e; done) | skip
    exact ⟨pe_v h e, pt_plain (pe_v h e) (fun _ => rfl)⟩
  | .c d => fun X m C W x hk h tk hv e => by
    cases x <;> first | (cases e; done) | skip
    have e' : cstOk d _ = true := e
    exact ⟨pe_c e', pt_plain (pe_c e') (fun _ => rfl)⟩
  | .g y d => fun X m C W x hk h tk hv e => by
    cases x <;> first | (cases e; done) | skip
    exact ⟨pe_g h e, pt_plain (pe_g h e) (fun _ => rfl)⟩
  | .f k => fun X m C W x hk h tk hv e => by
    cases x <;> first | (cases e; done) | skip
    exact ⟨pe_f h e, pt_plain (pe_f h e) (fun _ => rfl)⟩
  | .tup es => fun X m C W x hk h tk hv e => by
    cases x <;> first | (cases e; done) | skip
    exact rp (pe_tup' (l_ok es X m C W _ hk h tk e).1) (fun _ => rfl)
  | .lst es => fun X m C W x hk h tk hv e => by
    cases x <;> first | (cases e; done) | skip
    exact rp (pe_lst' (l_ok es X m C W _ hk h tk e).1) (fun _ => rfl)
  | .bin o a b => fun X m C W x hk h tk hv e => by
    cases x <;> first | (cases e; done) | skip
    simp only [mE, Bool.and_eq_true, decide_eq_true_eq] at e
    obtain ⟨⟨e1, e2, e3⟩, e4, e5⟩ := e
    subst e1
    exact rp (pe_bin' (o := o) (e_ok a X m C W _ hk h tk e2 e3).1 (e_ok b X m C W _ hk h tk e4 e5).1) (fun _ => rfl)
  | .neg a => fun X m C W x hk h tk hv e => by
    cases x <;> first | (cases e; done) | skip
    rename_i op _ _
    cases op <;> first | (cases e; done) | skip
    simp only [mE, Bool.and_eq_true] at e
    exact rp (pe_neg' (e_ok a X m C W _ hk h tk e.1 e.2).1) (fun _ => rfl)
  | .not a => fun X m C W x hk h tk hv e => by
    cases x <;> first | (cases e; done) | skip
    rename_i op _ _
    cases op <;> first | (cases e; done) | skip
    simp only [mE, Bool.and_eq_true] at e
    have r := e_ok a X m C W _ hk h tk e.1 e.2
    exact ⟨pe_not' r.1, pt_not' r.2⟩
  | .cmp o a b => fun X m C W x hk h tk hv e => by
    cases x <;> first | (cases e; done) | skip
    rename_i l ops cs _
    cases ops with
    | nil => cases e
    | cons op ops =>
    cases ops with
    | cons _ _ => cases e
    | nil =>
    cases cs with
    | nil => cases e
    | cons y cs =>
    cases cs with
    | cons _ _ => cases e
    | nil =>
    simp only [mE, Bool.and_eq_true, decide_eq_true_eq, Bool.not_eq_true'] at e
    obtain ⟨⟨⟨e1, e2, e3⟩, e4, e5⟩, hh⟩ := e
    subst e1
    have ra := (e_ok a X m C W _ hk h tk e2 e3).1
    have rb := (e_ok b X m C W _ hk h tk e4 e5).1
    exact ⟨pe_cmp' (h.room hh) ra rb (mE_starless e5), pt_cmp' (h.room hh) ra rb (mE_starless e5)⟩
  | .ch o o2 a b c => fun X m C W x hk h tk hv e => by
    cases x <;> first | (cases e; done) | skip
    rename_i l ops cs _
    cases ops with
    | nil => cases e
    | cons op ops =>
    cases ops with
    | nil => cases e
    | cons op2 ops =>
    cases ops with
    | cons _ _ => cases e
    | nil =>
    cases cs with
    | nil => cases e
    | cons y cs =>
    cases cs with
    | nil => cases e
    | cons z cs =>
    cases cs with
    | cons _ _ => cases e
    | nil =>
    simp only [mE, Bool.and_eq_true, decide_eq_true_eq, Bool.not_eq_true'] at e
    obtain ⟨⟨⟨⟨⟨⟨⟨⟨⟨e1, e2⟩, e3, e4⟩, e5, e6⟩, e7, e8⟩, _⟩, _⟩, _⟩, _⟩, hh⟩ := e
    subst e1
    subst e2
    have ra := (e_ok a X m C W _ hk h tk e3 e4).1
    have rb := (e_ok b X m C W _ hk h tk e5 e6).1
    have rc := (e_ok c X m C W _ hk h tk e7 e8).1
    exact ⟨pe_ch' (h.room hh) ra rb rc (mE_starless e8), pt_ch' (h.room hh) ra rb rc (mE_starless e8)⟩
  | .bop o es => fun X m C W x hk h tk hv e => by
    cases x <;> first | (cases e; done) | skip
    simp only [mE, Bool.and_eq_true, decide_eq_true_eq, Bool.not_eq_true'] at e
    obtain ⟨⟨e1, e2⟩, e3⟩ := e
    subst e1
    have r := l_ok es X m C W _ hk h tk e2
    exact ⟨pe_bop' (fun z => by rw [z] at e3; cases e3) r.2.1, pt_bop' (fun z => by rw [z] at e3; cases e3) r.2.2⟩
  | .ite c a b => fun X m C W x hk h tk hv e => by
    cases x <;> first | (cases e; done) | skip
    simp only [mE, Bool.and_eq_true] at e
    obtain ⟨⟨⟨e1, e2⟩, e3, e4⟩, e5, e6⟩ := e
    have rc := e_ok c X m C W _ hk h tk e1 e2
    have ra := e_ok a X m C W _ hk h tk e3 e4
    have rb := e_ok b X m C W _ hk h tk e5 e6
    exact ⟨pe_ite' rc.2 ra.1 rb.1, pt_ite' rc.2 ra.2 rb.2⟩
  | .ix a b => fun X m C W x hk h tk hv e => by
    cases x <;> first | (cases e; done) | skip
    rename_i o0 i0 _
    by_cases hi : ∃ l u s p0, i0 = .Slice l u s p0
    · obtain ⟨l, u, s, p0, rfl⟩ := hi
      simp only [mE, Bool.and_eq_true] at e
      exact absurd e.1.2.2 (fun z => by cases (mE_starless z))
    simp only [mE, Bool.and_eq_true, Bool.not_eq_true'] at e
    obtain ⟨⟨⟨e1, e2⟩, e3, e4⟩, hh⟩ := e
    exact rp (pe_ix' (by have := (h.room hh).units; omega) (e_ok a X m C W _ hk h tk e1 e2).1 (e_ok b X m C W _ hk h tk e3 e4).1 (mE_starless e4)) (fun _ => rfl)
  | .call k es => fun X m C W x hk h tk hv e => by
    cases x <;> first | (cases e; done) | skip
    rename_i fn xs ks pos
    cases fn <;> first | (cases e; done) | skip
    cases ks with
    | cons _ _ => cases e
    | nil =>
    simp only [mE, Bool.and_eq_true, decide_eq_true_eq, Bool.not_eq_true'] at e
    obtain ⟨⟨⟨⟨e1, e2⟩, e3⟩, e4⟩, hh⟩ := e
    exact rp (pe_call' (pos := pos) h hh tk e1 e2 e3 (l_ok es X m C W _ hk h tk e4).1 e4) (fun _ => rfl)
  | .callv i es => fun X m C W x hk h tk hv e => by
    cases x <;> first | (cases e; done) | skip
    rename_i fn xs ks pos
    cases fn <;> first | (cases e; done) | skip
    cases ks with
    | cons _ _ => cases e
    | nil =>
    simp only [mE, Bool.and_eq_true, decide_eq_true_eq, Bool.not_eq_true'] at e
    obtain ⟨⟨⟨⟨⟨e1, e2⟩, e3⟩, e4⟩, e5⟩, hh⟩ := e
    exact rp (pe_callv' (pos := pos) h hh tk e1 e2 e3 (l_ok es X m C W _ hk h tk e4).1 e4 (fun z => by rw [z] at e5; cases e5)) (fun _ => rfl)
  | .bi b es => fun X m C W x hk h tk hv e => by
    cases x <;> first | (cases e; done) | skip
    rename_i fn xs ks pos
    cases fn <;> first | (cases e; done) | skip
    cases ks with
    | cons _ _ => cases e
    | nil =>
    simp only [mE, Bool.and_eq_true, decide_eq_true_eq, Bool.not_eq_true', Bool.or_eq_true] at e
    obtain ⟨⟨⟨⟨⟨e1, e2⟩, e3⟩, e4⟩, e5⟩, hh⟩ := e
    exact rp (pe_bi' (pos := pos) h hh e1 e2 (e3.imp id (bt_of h)) (l_ok es X m C W _ hk h tk e4).1 e4 (fun z => by rw [z] at e5; cases e5)) (fun _ => rfl)
  | .isi a t => fun X m C W x hk h tk hv e => by
    cases x <;> first | (cases e; done) | skip
    rename_i fn xs ks pos
    cases fn <;> first | (cases e; done) | skip
    cases xs with
    | nil => cases e
    | cons y xs =>
    cases xs with
    | nil => cases e
    | cons z xs =>
    cases z <;> first | (cases e; done) | skip
    cases xs with
    | cons _ _ => cases e
    | nil =>
    cases ks with
    | cons _ _ => cases e
    | nil =>
    simp only [mE, Bool.and_eq_true, decide_eq_true_eq] at e
    obtain ⟨⟨⟨⟨⟨⟨e1, e2⟩, e3⟩, e4⟩, e5⟩, e6⟩, e7, e8⟩ := e
    exact rp (pe_isi' (pos := pos) h e1 e2 (bt_of h e3) e4 e5 (bt_of h e6) (e_ok a X m C W _ hk h tk e7 e8).1 (mE_starless e8)) (fun _ => rfl)
  | .rng a => fun X m C W x hk h tk hv e => by cases hv
  | .zip a b => fun X m C W x hk h tk hv e => by cases hv
  | .enu a => fun X m C W x hk h tk hv e => by cases hv
  | .rng2 a b => fun X m C W x hk h tk hv e => by cases hv
  | .never => fun X m C W x hk h tk hv e => by
    refine ⟨pe_never, ⟨fun pins s σ H Q I q => ?_⟩⟩
    obtain ⟨env, u, A, rel, w, o⟩ := q
    rw [evE] at o
    exact o.elim
  | .lrg a b => fun X m C W x hk h tk hv e => by
    cases x <;> first | (cases e; done) | skip
    rename_i fn xs ks pos
    cases fn <;> first | (cases e; done) | skip
    cases xs with
    | nil => cases e
    | cons y xs =>
    cases y <;> first | (cases e; done) | skip
    rename_i fn2 xs2 ks2 pos2
    cases fn2 <;> first | (cases e; done) | skip
    cases xs2 with
    | nil => cases e
    | cons y2 xs2 =>
    cases ks2 with
    | cons _ _ => cases xs2 with
      | nil => cases e
      | cons _ xs3 => cases xs3 <;> cases e
    | nil =>
    cases xs with
    | cons _ _ => cases xs2 with
      | nil => cases e
      | cons _ xs3 => cases xs3 <;> cases e
    | nil =>
    cases ks with
    | cons _ _ => cases xs2 with
      | nil => cases e
      | cons _ xs3 => cases xs3 <;> cases e
    | nil =>
    cases xs2 with
    | nil =>
      simp only [mE, Bool.and_eq_true, decide_eq_true_eq, Bool.not_eq_true'] at e
      obtain ⟨⟨⟨⟨⟨⟨⟨⟨e1, e2⟩, e3⟩, e4⟩, e5⟩, e6⟩, e7⟩, e8, e9⟩, hh⟩ := e
      exact rp (pe_lrg1' (pos := pos) (pos2 := pos2) h hh e1 e2 (bt_of h e3) e4 e5 (bt_of h e6) e7 (e_ok b X m C W _ hk h tk e8 e9).1 (mE_starless e9)) (fun _ => rfl)
    | cons y3 xs3 =>
    cases xs3 with
    | cons _ _ => cases e
    | nil =>
      simp only [mE, Bool.and_eq_true, decide_eq_true_eq, Bool.not_eq_true'] at e
      obtain ⟨⟨⟨⟨⟨⟨⟨⟨e1, e2⟩, e3⟩, e4⟩, e5⟩, e6⟩, e7, e8⟩, e9, e10⟩, hh⟩ := e
      exact rp (pe_lrg2' (pos := pos) (pos2 := pos2) h hh e1 e2 (bt_of h e3) e4 e5 (bt_of h e6) (e_ok a X m C W _ hk h tk e7 e8).1 (e_ok b X m C W _ hk h tk e9 e10).1 (mE_starless e8) (mE_starless e10)) (fun _ => rfl)
  | .dget a es => fun X m C W x hk h tk hv e => by
    cases x <;> first | (cases e; done) | skip
    rename_i fn xs ks pos
    cases fn <;> first | (cases e; done) | skip
    rename_i o attr apos
    cases ks with
    | cons _ _ => cases e
    | nil =>
    simp only [mE, Bool.and_eq_true, decide_eq_true_eq, Bool.or_eq_true, Bool.not_eq_true'] at e
    obtain ⟨⟨⟨⟨⟨⟨e1, e2⟩, e3, e4⟩, e5⟩, e6⟩, e7⟩, hh⟩ := e
    subst e1
    exact rp (pe_dget' (by have := (h.room hh).units; omega) e2 (e_ok a X m C W _ hk h tk e3 e4).1 (l_ok es X m C W _ hk h tk e5).2.1 (mL_starless e5) e6 e7) (fun _ => rfl)
  | .sset a => fun X m C W x hk h tk hv e => by
    cases x <;> first | (cases e; done) | skip
    rename_i fn xs ks pos
    cases fn <;> first | (cases e; done) | skip
    cases xs with
    | nil => cases e
    | cons y xs =>
    cases y <;> first | (cases e; done) | skip
    rename_i fn2 xs2 ks2 pos2
    cases fn2 <;> first | (cases e; done) | skip
    cases xs2 with
    | nil => cases e
    | cons y2 xs2 =>
    cases xs2 with
    | cons _ _ => cases e
    | nil =>
    cases ks2 with
    | cons _ _ => cases e
    | nil =>
    cases xs with
    | cons _ _ => cases e
    | nil =>
    cases ks with
    | cons _ _ => cases e
    | nil =>
    simp only [mE, Bool.and_eq_true, decide_eq_true_eq, Bool.not_eq_true'] at e
    obtain ⟨⟨⟨⟨⟨⟨⟨e1, e2⟩, e3⟩, e4⟩, e5⟩, e6⟩, e7, e8⟩, hh⟩ := e
    exact rp (pe_sset' (pos := pos) (pos2 := pos2) h hh e1 e2 (bt_of h e3) e4 e5 (bt_of h e6) (e_ok a X m C W _ hk h tk e7 e8).1 (mE_starless e8)) (fun _ => rfl)
  | .sgn a => fun X m C W x hk h tk hv e => by cases hv
  | .kget y t es => fun X m C W x hk h tk hv e => by
    cases x <;> first | (cases e; done) | skip
    rename_i fn xs ks pos
    cases fn <;> first | (cases e; done) | skip
    rename_i o attr apos
    cases o <;> first | (cases e; done) | skip
    cases ks with
    | cons _ _ => cases e
    | nil =>
    simp only [mE, Bool.and_eq_true, decide_eq_true_eq, Bool.or_eq_true] at e
    obtain ⟨⟨⟨⟨⟨⟨⟨e1, e2⟩, e3⟩, e4⟩, e5⟩, e6⟩, e7⟩, e8⟩ := e
    subst e1
    subst e2
    exact rp (pe_kget' h e3 e4 e5 (l_ok es X m C W _ hk h tk e6).2.1 (fun y hy => mL_starless e6 y hy) e7 e8) (fun _ => rfl)
  | .sl a lo hi => fun X m C W x hk h tk hv e => by
    cases x <;> first | (cases e; done) | skip
    rename_i o0 i0 _
    cases i0 <;> first | (cases e; done) | skip
    rename_i l u s p0
    cases s with
    | some _ => cases e
    | none =>
    simp only [mE, Bool.and_eq_true] at e
    obtain ⟨⟨⟨e1, e2⟩, e3⟩, e4⟩ := e
    refine rp (pe_sl' (e_ok a X m C W _ hk h tk e1 e2).1 ?_ ?_) (fun _ => rfl)
    · cases l with
      | none => exact po_no e3
      | some y =>
        simp only [Bool.and_eq_true, Bool.not_eq_true'] at e3
        exact po_so e3.1.1 (e_ok lo X m C W _ hk h tk e3.1.2 e3.2).1
    · cases u with
      | none => exact po_no e4
      | some y =>
        simp only [Bool.and_eq_true, Bool.not_eq_true'] at e4
        exact po_so e4.1.1 (e_ok hi X m C W _ hk h tk e4.1.2 e4.2).1
  | .lse a => fun X m C W x hk h tk hv e => by
    cases x <;> first | (cases e; done) | skip
    rename_i fn xs ks pos
    cases fn <;> first | (cases e; done) | skip
    cases xs with
    | nil => cases e
    | cons y xs =>
    cases y <;> first | (cases e; done) | skip
    rename_i fn2 xs2 ks2 pos2
    cases fn2 <;> first | (cases e; done) | skip
    cases xs2 with
    | nil => cases e
    | cons y2 xs2 =>
    cases xs2 with
    | cons _ _ => cases e
    | nil =>
    cases ks2 with
    | cons _ _ => cases e
    | nil =>
    cases xs with
    | cons _ _ => cases e
    | nil =>
    cases ks with
    | cons _ _ => cases e
    | nil =>
    simp only [mE, Bool.and_eq_true, decide_eq_true_eq, Bool.not_eq_true'] at e
    obtain ⟨⟨⟨⟨⟨⟨⟨e1, e2⟩, e3⟩, e4⟩, e5⟩, e6⟩, e7, e8⟩, hh⟩ := e
    exact rp (pe_lse' (pos := pos) (pos2 := pos2) h hh e1 e2 (bt_of h e3) e4 e5 (bt_of h e6) (e_ok a X m C W _ hk h tk e7 e8).1 (mE_starless e8)) (fun _ => rfl)
  | .idx a b => fun X m C W x hk h tk hv e => by
    cases x <;> first | (cases e; done) | skip
    rename_i fn xs ks pos
    cases fn <;> first | (cases e; done) | skip
    rename_i o attr apos
    cases xs with
    | nil => cases e
    | cons y xs =>
    cases xs with
    | cons _ _ => cases e
    | nil =>
    cases ks with
    | cons _ _ => cases e
    | nil =>
    simp only [mE, Bool.and_eq_true, decide_eq_true_eq] at e
    obtain ⟨⟨⟨⟨e1, e2⟩, e3, e4⟩, e5, e6⟩, e7⟩ := e
    subst e1
    exact rp (pe_idx' (e_ok a X m C W _ hk h tk e3 e4).1 (e_ok b X m C W _ hk h tk e5 e6).1 (mE_starless e6) e2 e7) (fun _ => rfl)
  | .dic es => fun X m C W x hk h tk hv e => by
    cases x <;> first | (cases e; done) | skip
    simp only [mE, Bool.and_eq_true, decide_eq_true_eq] at e
    obtain ⟨⟨⟨e1, e2⟩, e3⟩, e4⟩ := e
    exact rp (pe_dic' (l_ok es X m C W _ hk h tk e1).2.1 e2 e3 e4) (fun _ => rfl)
  | .lc own tg src ifs elt => fun X m C W x hk h tk hv e => by
    cases x <;> first | (cases e; done) | skip
    rename_i elt' gs scope pos
    cases gs with
    | nil => cases e
    | cons g0 gs =>
    obtain ⟨tg', it', ifs', as⟩ := g0
    cases gs with
    | cons _ _ => simp [mE] at e
    | nil =>
    by_cases h0 : as = 0
    case neg => simp [mE, h0] at e
    subst h0
    simp only [mE, Bool.and_eq_true] at e
    obtain ⟨⟨⟨⟨⟨⟨⟨⟨⟨e1, e2⟩, e3⟩, e4⟩, e5⟩, e6⟩, e7⟩, e8⟩, e9, e10⟩, e11⟩ := e
    have hk' : (m.blk scope).sc.kind = .function := by
      have z := (blkOk_by e1).kind
      exact z
    cases hh : m.hot with
    | false =>
      exact rp (pe_lc' (W := W) (C := C) (pos := pos) h hh (src_ok hk h tk (fun _ => e_ok src) (fun a ea => by subst ea; exact e_ok a) (fun a b ea => by subst ea; exact ⟨e_ok a, e_ok b⟩) (fun a ea => by subst ea; exact e_ok a) (fun a ea => by subst ea; exact e_ok a) (fun a b ea => by subst ea; exact ⟨e_ok a, e_ok b⟩) e5 e6) e1 (own_sub e2) (own_lt e3)
        (fun s H D cl fp => pg_ok (X := X.blk s H scope (compEnvC scope cl D X.env) fp) (f := f) (C := C) (m := ⟨m.N, scope, m.er, m.hot⟩) h.N h.nd (.inl (h.calm hh)) (fun y hy => loc_of h y hy) tg tg' e4)
        (fun s H D cl fp => pts_ok (l_ok ifs (X.blk s H scope (compEnvC scope cl D X.env) fp) (m.blk scope) C W0 ifs' hk' (h.blk hh hk) LamN.takes0 e7).2.2 (of_decide_eq_true e8))
        (fun s H D cl fp => (e_ok elt (X.blk s H scope (compEnvC scope cl D X.env) fp) (m.blk scope) C W0 elt' hk' (h.blk hh hk) LamN.takes0 e9 e10).1) (mE_starless e5)) (fun _ => rfl)
    | true =>
      have hv2 : src.val = true := by simpa [hh] using e11
      exact rp (pe_lcH' (W := W) (C := C) (pos := pos) h hh (pi_valH' (e_ok src X m C W it' hk h tk hv2 e5).1) e1 (own_sub e2) (own_lt e3)
        (fun p0 h0 s H D cl fp => pg_ok (X := EvHot.blkH X p0 s H scope (compEnvC scope cl D X.env) fp) (f := f) (C := C) (m := ⟨m.N, scope, m.er, m.hot⟩) h.N h.nd (.inr (EvHot.blkH_hot h0)) (fun y hy => loc_of h (s := s) (H := H) (cl := cl) (D := D) (fp := fp) y hy) tg tg' e4)
        (fun p0 h0 s H D cl fp => pts_ok (l_ok ifs (EvHot.blkH X p0 s H scope (compEnvC scope cl D X.env) fp) (m.blk scope) C W0 ifs' hk' (h.blkH hh h0 hk) LamN.takes0 e7).2.2 (of_decide_eq_true e8))
        (fun p0 h0 s H D cl fp => (e_ok elt (EvHot.blkH X p0 s H scope (compEnvC scope cl D X.env) fp) (m.blk scope) C W0 elt' hk' (h.blkH hh h0 hk) LamN.takes0 e9 e10).1) (mE_starless e5)) (fun _ => rfl)
  | .err e0 => fun X m C W x hk h tk hv e => by
    cases x <;> first | (cases e; done) | skip
    rename_i fn xs ks pos
    cases fn <;> first | (cases e; done) | skip
    cases xs with
    | nil => cases e
    | cons y xs =>
    cases y <;> first | (cases e; done) | skip
    cases xs with
    | cons _ _ => cases e
    | nil =>
    cases ks with
    | cons _ _ => cases e
    | nil =>
    simp only [mE, Bool.and_eq_true, decide_eq_true_eq, Bool.not_eq_true'] at e
    obtain ⟨⟨⟨⟨⟨⟨⟨e1, e2⟩, e3⟩, e4⟩, e5⟩, e6⟩, e7, e8⟩, hh⟩ := e
    subst e2
    exact rp (pe_err' (C := C) (W := W) (pos := pos) h e1 hh e3 e4 e5 e6 (fun A outer s H E f' c' hr => by
      have L := lamS_by e6
      exact (e_ok e0 (LamN.lamCx X A outer s H E _ f' c') ⟨m.N, _, false, false⟩ C _ _ L.kind (h.lam hr) (L2N.takes_of rfl rfl rfl rfl) e7 e8).1)) (fun _ => rfl)
  | .isE i t k => fun X m C W x hk h tk hv e => by
    cases x <;> first | (cases e; done) | skip
    rename_i fn xs ks pos
    cases fn <;> first | (cases e; done) | skip
    cases xs with
    | nil => cases e
    | cons y xs =>
    cases y <;> first | (cases e; done) | skip
    cases xs with
    | nil => cases e
    | cons z xs =>
    cases z <;> first | (cases e; done) | skip
    cases xs with
    | cons _ _ => cases e
    | nil =>
    cases ks with
    | cons _ _ => cases e
    | nil =>
    simp only [mE, Bool.and_eq_true, decide_eq_true_eq] at e
    obtain ⟨⟨⟨⟨⟨⟨⟨⟨⟨⟨⟨e1, e2⟩, e3⟩, e4⟩, e5⟩, e6⟩, e7⟩, e8⟩, e9⟩, e10⟩, e11⟩, e12⟩ := e
    exact rp (pe_isE' (pos := pos) h e1 e2 e3 e4 (bt_of h e5) e6 e7 e8 e9 e10 e11 e12) (fun _ => rfl)
  | .join a b => fun X m C W x hk h tk hv e => by
    cases x <;> first | (cases e; done) | skip
    rename_i fn xs ks pos
    cases fn <;> first | (cases e; done) | skip
    rename_i o attr apos
    cases o <;> first | (cases e; done) | skip
    cases xs with
    | nil => cases e
    | cons y xs =>
    cases xs with
    | cons _ _ => cases e
    | nil =>
    cases ks with
    | cons _ _ => cases e
    | nil =>
    simp only [mE, Bool.and_eq_true, decide_eq_true_eq] at e
    obtain ⟨⟨⟨e1, e2, e3⟩, e4, e5⟩, e6⟩ := e
    subst e1
    exact rp (pe_join' (e_ok a X m C W _ hk h tk e2 e3).1 (e_ok b X m C W _ hk h tk e4 e5).1 (mE_starless e5) e6) (fun _ => rfl)
theorem l_ok : ∀ es : List Ex, LOk p f wd nw pr n es
  | [] => fun X m C W xs hk h tk e => by
    cases xs with
    | cons _ _ => cases e
    | nil => exact ⟨pa_nil', .nil, .nil⟩
  | a :: es => fun X m C W xs hk h tk e => by
    cases xs with
    | nil => cases e
    | cons x xs =>
    simp only [mL, Bool.and_eq_true] at e
    obtain ⟨⟨e1, e2⟩, e3⟩ := e
    have r := e_ok a X m C W x hk h tk e1 e2
    have rs := l_ok es X m C W xs hk h tk e3
    exact ⟨pa_cons' r.1 rs.1 (mE_starless e2), .cons r.1 rs.2.1, .cons r.2 rs.2.2⟩
end
end
end Ev

/-! Statements: the relation, the look, the readings. -/
namespace Ev
open PySem PySem.Spec PyProof.Rows L2 LamX

/-- the frame's slots and the heap beside the evaluator's slots. Since the heap H0 the lists at B, and new ones, may have changed; F: the lists that stay; ow i: the list that slot i alone holds -/
structure SRw (g : G) (C : Addr) (A0 B : Addr → Prop) (H0 : Hp) (F : Addr → Prop) (ow : Nat → Addr) (env : En) (σ : L2.St) (H : Hp) : Prop where
  ext : ExtB C B H0 H
  fr : ∀ a, F a → (A0 a ∨ B a ∨ NL H0 a)
  old : ∀ (i : Nat) (d : D), env[i]? = some (some (false, d)) → ∃ v, σ[i]? = some (some v) ∧ Rp g C H F d v
  own : ∀ (i : Nat) (d : D), env[i]? = some (some (true, d)) → ∃ ds o vs, Box d ds o vs ∧ σ[i]? = some (some (.ref (ow i))) ∧ H (ow i) = some o ∧ ow i ≠ C ∧ ¬ F (ow i) ∧ (B (ow i) ∨ NL H0 (ow i)) ∧ D.flats ds = true ∧ Rps g C H F ds vs
  dis : ∀ (i j : Nat) (d d' : D), env[i]? = some (some (true, d)) → env[j]? = some (some (true, d')) → i ≠ j → ow i ≠ ow j
def SRel (g : G) (C : Addr) (A0 B : Addr → Prop) (H0 : Hp) (env : En) (σ : L2.St) (H : Hp) : Prop := ∃ F ow, SRw g C A0 B H0 F ow env σ H
section
variable {g : G} {C : Addr} {A0 B : Addr → Prop} {H0 H H' : Hp} {F : Addr → Prop} {ow : Nat → Addr} {env : En} {σ : L2.St}
/-- what an expression reads -/
def AOf (env : En) (ow : Nat → Addr) (F : Addr → Prop) (H : Hp) (is : List Nat) (a : Addr) : Prop := (F a ∧ ¬ NL H a) ∨ ∃ i ∈ is, (∃ d, env[i]? = some (some (true, d))) ∧ a = ow i
theorem SRw.relE (h : SRw g C A0 B H0 F ow env σ H) (is : List Nat) : RelE g C H (AOf env ow F H is) env σ is := fun i hi b d e => by
  cases b with
  | false =>
    obtain ⟨v, h1, h2⟩ := h.old i d e
    exact ⟨v, h1, h2.tight.mono fun a ha => .inl ha⟩
  | true =>
    obtain ⟨ds, o, vs, bx, h1, h2, h3, h4, h5, h6, h7⟩ := h.own i d e
    exact ⟨_, h1, Rp.ofBox bx h2 (.inr ⟨i, hi, ⟨_, e⟩, rfl⟩) h3 (Rps.ofFlat _ _ h6 h7)⟩
theorem freeze_at {is : List Nat} {i : Nat} : (freeze is env)[i]? = (env[i]?).map (frz is i) := by
  unfold freeze
  rw [List.getElem?_mapIdx]
theorem freeze_false {is : List Nat} {i : Nat} {d : D} (e : (freeze is env)[i]? = some (some (false, d))) : env[i]? = some (some (false, d)) ∨ (i ∈ is ∧ env[i]? = some (some (true, d))) := by
  rw [freeze_at] at e
  cases h : env[i]? with
  | none => rw [h] at e; cases e
  | some s =>
    rw [h] at e
    cases s with
    | none => cases e
    | some q =>
      obtain ⟨b, d'⟩ := q
      simp only [Option.map_some, frz, Option.some.injEq, Prod.mk.injEq] at e
      obtain ⟨e1, e2⟩ := e
      subst e2
      cases b with
      | false => exact .inl rfl
      | true => exact .inr ⟨by simpa using e1, rfl⟩
theorem freeze_true {is : List Nat} {i : Nat} {d : D} (e : (freeze is env)[i]? = some (some (true, d))) : i ∉ is ∧ env[i]? = some (some (true, d)) := by
  rw [freeze_at] at e
  cases h : env[i]? with
  | none => rw [h] at e; cases e
  | some s =>
    rw [h] at e
    cases s with
    | none => cases e
    | some q =>
      obtain ⟨b, d'⟩ := q
      simp only [Option.map_some, frz, Option.some.injEq, Prod.mk.injEq, Bool.and_eq_true] at e
      obtain ⟨⟨e1, e3⟩, e2⟩ := e
      subst e2
      subst e1
      exact ⟨by simpa using e3, rfl⟩
/-- the heap has grown -/
theorem SRw.ext' (h : SRw g C A0 B H0 F ow env σ H) (x : Ext C H H') (hc : ∀ a, B a → (IsMu H0 a)) : SRw g C A0 B H0 (fun a => F a ∧ ¬ NL H a) ow env σ H' := by
  refine ⟨⟨fun b o k n nb m => x.keep b o (h.ext.keep b o k n nb m) n m, fun b k => x.isMu (h.ext.mu b k)⟩, fun a ha => h.fr a ha.1, fun i d e => ?_, fun i d e => ?_, h.dis⟩
  · obtain ⟨v, h1, h2⟩ := h.old i d e
    exact ⟨v, h1, x.rp h2.tight⟩
  · obtain ⟨ds, o, vs, e1, h1, h2, h3, h4, h5, h6, h7⟩ := h.own i d e
    exact ⟨ds, o, vs, e1, h1, x.mu e1.mu h2 h3, h3, fun z => h4 z.1, h5, h6, Rps.ofFlat _ _ h6 (x.rps h7)⟩
/-- slots are held fast: the lists that an expression reads, and new ones, stay -/
theorem SRw.fast (h : SRw g C A0 B H0 F ow env σ H) (x : Ext C H H') (is : List Nat) : SRw g C A0 B H0 (fun a => AOf env ow F H is a ∨ NL H a) ow (freeze is env) σ H' := by
  have nA : ∀ i d, (freeze is env)[i]? = some (some (true, d)) → ¬ (AOf env ow F H is (ow i) ∨ NL H (ow i)) := fun i d e => by
    obtain ⟨e1, e2⟩ := freeze_true e
    obtain ⟨ds, o, vs, bx, h1, h2, h3, h4, h5, h6, h7⟩ := h.own i d e2
    rintro ((z | ⟨j, hj, ⟨d', ed⟩, z⟩) | z)
    · exact h4 z.1
    · by_cases hij : i = j
      · exact e1 (hij ▸ hj)
      · exact h.dis i j d d' e2 ed hij z
    · exact z.mu bx.mu h2
  refine ⟨⟨fun b o k n nb m => x.keep b o (h.ext.keep b o k n nb m) n m, fun b k => x.isMu (h.ext.mu b k)⟩, fun a ha => ?_, fun i d e => ?_, fun i d e => ?_, fun i j d d' e e' => h.dis i j d d' (freeze_true e).2 (freeze_true e').2⟩
  · rcases ha with (z | ⟨j, hj, ⟨d', ed⟩, rfl⟩) | z
    · exact h.fr a z.1
    · obtain ⟨_, _, _, _, _, _, _, _, h5, _⟩ := h.own j d' ed
      exact h5.elim (fun q => .inr (.inl q)) fun q => .inr (.inr q)
    · exact .inr (.inr (h.ext.free a z))
  · rcases freeze_false e with e1 | ⟨hi, e1⟩
    · obtain ⟨v, h1, h2⟩ := h.old i d e1
      exact ⟨v, h1, (x.rp h2.tight).mono fun a ha => .inl (.inl ha)⟩
    · obtain ⟨ds, o, vs, bx, h1, h2, h3, h4, h5, h6, h7⟩ := h.own i d e1
      exact ⟨_, h1, Rp.ofBox bx (x.mu bx.mu h2 h3) (.inl (.inr ⟨i, hi, ⟨_, e1⟩, rfl⟩)) h3 (Rps.ofFlat _ _ h6 (x.rps h7))⟩
  · obtain ⟨ds, o, vs, e1, h1, h2, h3, h4, h5, h6, h7⟩ := h.own i d (freeze_true e).2
    exact ⟨ds, o, vs, e1, h1, x.mu e1.mu h2 h3, h3, nA i d e, h5, h6, Rps.ofFlat _ _ h6 (x.rps h7)⟩
/-- the value of an expression, ready to be kept -/
def Keep (g : G) (C : Addr) (B : Addr → Prop) (H0 H' : Hp) (F : Addr → Prop) (ow : Nat → Addr) (env : En) (b : Bool) (d : D) (v : V) : Prop :=
  (b = false → Rp g C H' F d v) ∧ (b = true → ∃ ds o p vs, Box d ds o vs ∧ v = .ref p ∧ H' p = some o ∧ p ≠ C ∧ ¬ F p ∧ (B p ∨ NL H0 p) ∧ D.flats ds = true ∧ Rps g C H' F ds vs ∧ ∀ (j : Nat) d', env[j]? = some (some (true, d')) → ow j ≠ p)
theorem ownable_of {d : D} (h : d.ownable = true) : d.isBox = true ∧ D.flats d.its = true := by
  unfold D.ownable at h
  rw [Bool.and_eq_true] at h
  exact h
theorem SRw.afterOk (h : SRw g C A0 B H0 F ow env σ H) (hc : ∀ a, B a → (IsMu H0 a)) {e : Ex} {d : D} {u : Cup} {v : V} {A : Addr → Prop} (po : Post g C H A e.fresh d u v H') (hf : (d.flat || (e.fresh && d.ownable)) = true) :
    SRw g C A0 B H0 (fun a => F a ∧ ¬ NL H a) ow env σ H' ∧ Keep g C B H0 H' (fun a => F a ∧ ¬ NL H a) ow env (e.fresh && d.ownable) d v := by
  refine ⟨h.ext' po.ext hc, fun eb => ?_, fun eb => ?_⟩
  · have fl : d.flat = true := by
      rw [eb, Bool.or_false] at hf
      exact hf
    exact Rp.ofFlat _ _ fl po.rp
  · rw [Bool.and_eq_true] at eb
    obtain ⟨ib, fl⟩ := ownable_of eb.2
    obtain ⟨p, o, vs, rfl, bx, h1, h2, h3, h4⟩ := po.rp.box ib
    have np := po.fr eb.1 ib p rfl
    refine ⟨d.its, o, p, vs, bx, rfl, h1, h3, fun z => z.2 np, .inr (h.ext.free p np), fl, Rps.ofFlat _ _ fl h4, fun j d' e' z => ?_⟩
    obtain ⟨_, _, ws, bx2, _, k, _⟩ := h.own j d' e'
    rw [z] at k
    exact np.mu bx2.mu k
theorem SRw.after (h : SRw g C A0 B H0 F ow env σ H) (hc : ∀ a, B a → (IsMu H0 a)) {e : Ex} {d : D} {u : Cup} {v : V} (po : Post g C H (AOf env ow F H e.fv) e.fresh d u v H') :
    ∃ F', SRw g C A0 B H0 F' ow (after e d env) σ H' ∧ Keep g C B H0 H' F' ow (after e d env) (e.fresh && d.ownable) d v := by
  unfold Ev.after
  split
  · rename_i hf
    exact ⟨_, h.afterOk hc po hf⟩
  · rename_i hf
    refine ⟨_, h.fast po.ext e.fv, fun eb => po.rp, fun eb => ?_⟩
    exfalso
    apply hf
    rw [eb, Bool.or_true]
/-- whose list a slot holds, once it is set -/
def owSet (b : Bool) (v : V) (i : Nat) (ow : Nat → Addr) : Nat → Addr := fun l => if b = true ∧ l = i then (match v with | .ref p => p | _ => 0) else ow l
theorem SRw.setW (h : SRw g C A0 B H0 F ow env σ H) {i : Nat} {b : Bool} {d : D} {v : V} (hi : i < σ.length) (k : Keep g C B H0 H F ow env b d v) : SRw g C A0 B H0 F (owSet b v i ow) (env.set i (some (b, d))) (σ.set i (some v)) H := by
  have at_ : ∀ {j : Nat} {b' : Bool} {d' : D}, (env.set i (some (b, d)))[j]? = some (some (b', d')) → (j = i ∧ b' = b ∧ d' = d) ∨ (j ≠ i ∧ env[j]? = some (some (b', d'))) := fun {j b' d'} e => by
    by_cases hj : i = j
    · subst hj
      by_cases hl : i < env.length
      · rw [List.getElem?_set_self hl] at e
        cases e
        exact .inl ⟨rfl, rfl, rfl⟩
      · rw [List.getElem?_eq_none (by rw [List.length_set]; omega)] at e
        cases e
    · rw [List.getElem?_set_ne hj] at e
      exact .inr ⟨fun z => hj z.symm, e⟩
  have ne : ∀ {j : Nat}, j ≠ i → owSet b v i ow j = ow j := fun {j} n => if_neg fun z => n z.2
  refine ⟨h.ext, h.fr, fun j d' e => ?_, fun j d' e => ?_, fun j l d1 d2 e1 e2 n => ?_⟩
  · rcases at_ e with ⟨rfl, z, rfl⟩ | ⟨n, e⟩
    · exact ⟨v, List.getElem?_set_self hi, k.1 z.symm⟩
    · obtain ⟨w, h1, h2⟩ := h.old j d' e
      exact ⟨w, by rw [List.getElem?_set_ne fun z => n z.symm]; exact h1, h2⟩
  · rcases at_ e with ⟨rfl, z, rfl⟩ | ⟨n, e⟩
    · obtain ⟨ds, o, p, vs, bx, rfl, k1, k2, k3, k4, k5, k6, k7⟩ := k.2 z.symm
      have eo : owSet b (.ref p) j ow j = p := if_pos ⟨z.symm, rfl⟩
      refine ⟨ds, o, vs, bx, ?_⟩
      rw [eo]
      exact ⟨List.getElem?_set_self hi, k1, k2, k3, k4, k5, k6⟩
    · obtain ⟨ds', o', vs', e1, h1, h2⟩ := h.own j d' e
      refine ⟨ds', o', vs', e1, ?_⟩
      rw [ne n]
      exact ⟨by rw [List.getElem?_set_ne fun z => n z.symm]; exact h1, h2⟩
  · have self : ∀ {d' : D}, true = b → ∃ p, owSet b v i ow i = p ∧ ∀ (j : Nat) d', env[j]? = some (some (true, d')) → ow j ≠ p := fun {d'} z => by
      obtain ⟨ds, o, p, vs, bx, rfl, k1, k2, k3, k4, k5, k6, k7⟩ := k.2 z.symm
      exact ⟨p, if_pos ⟨z.symm, rfl⟩, k7⟩
    rcases at_ e1 with ⟨z1, zb, _⟩ | ⟨n1, e1'⟩
    · rcases at_ e2 with ⟨z2, _, _⟩ | ⟨n2, e2'⟩
      · exact absurd (z1.trans z2.symm) n
      · obtain ⟨p, q1, q2⟩ := self (d' := d1) zb
        rw [z1, q1, ne n2]
        exact (q2 l d2 e2').symm
    · rcases at_ e2 with ⟨z2, zb, _⟩ | ⟨n2, e2'⟩
      · obtain ⟨p, q1, q2⟩ := self (d' := d1) zb
        rw [z2, q1, ne n1]
        exact q2 j d1 e1'
      · rw [ne n1, ne n2]
        exact h.dis j l d1 d2 e1' e2' n
theorem SRw.set (h : SRw g C A0 B H0 F ow env σ H) {i : Nat} {b : Bool} {d : D} {v : V} (hi : i < σ.length) (k : Keep g C B H0 H F ow env b d v) : SRel g C A0 B H0 (env.set i (some (b, d))) (σ.set i (some v)) H := ⟨F, _, h.setW hi k⟩
/-- another value beside one that was set -/
theorem Keep.next {i : Nat} {b1 b : Bool} {d1 d : D} {v1 v : V} (k1 : Keep g C B H0 H F ow env b1 d1 v1) (k : Keep g C B H0 H F ow env b d v) (n : b1 = true → b = true → v1 ≠ v) : Keep g C B H0 H F (owSet b1 v1 i ow) (env.set i (some (b1, d1))) b d v := by
  refine ⟨k.1, fun eb => ?_⟩
  obtain ⟨ds, o, p, vs, bx, rfl, h1, h2, h3, h4, h5, h6, h7⟩ := k.2 eb
  refine ⟨ds, o, p, vs, bx, rfl, h1, h2, h3, h4, h5, h6, fun j d' e => ?_⟩
  by_cases hj : i = j
  · subst hj
    by_cases hl : i < env.length
    · rw [List.getElem?_set_self hl] at e
      have z : b1 = true := by
        cases e
        rfl
      obtain ⟨ds1, o1, p1, vs1, bx1, rfl, _⟩ := k1.2 z
      rw [show owSet b1 (.ref p1) i ow i = p1 from if_pos ⟨z, rfl⟩]
      exact fun q => n z eb (by rw [q])
    · rw [List.getElem?_eq_none (by rw [List.length_set]; omega)] at e
      cases e
  · rw [List.getElem?_set_ne hj] at e
    rw [show owSet b1 v1 i ow j = ow j from if_neg fun z => hj z.2.symm]
    exact h7 j d' e
/-- a target's slots are put -/
theorem SRw.put (h : SRw g C A0 B H0 F ow env σ H) {env' : En} {σ' : L2.St} {is : List Nat} {A : Addr → Prop} (pr : PutR g C H A is env env' σ σ') (hA : ∀ a, A a → F a) : SRw g C A0 B H0 F ow env' σ' H := by
  refine ⟨h.ext, h.fr, fun i d e => ?_, fun i d e => ?_, fun i j d d' e e' n => ?_⟩
  · rcases pr.on i false d e with ⟨k1, k2⟩ | ⟨_, v, k2, k3⟩
    · obtain ⟨v, h1, h2⟩ := h.old i d k1
      exact ⟨v, k2.trans h1, h2⟩
    · exact ⟨v, k2, k3.mono hA⟩
  · rcases pr.on i true d e with ⟨k1, k2⟩ | ⟨z, _⟩
    · obtain ⟨ds, o, vs, e1, h1, h2⟩ := h.own i d k1
      exact ⟨ds, o, vs, e1, k2.trans h1, h2⟩
    · cases z
  · rcases pr.on i true d e with ⟨k1, _⟩ | ⟨z, _⟩
    · rcases pr.on j true d' e' with ⟨k2, _⟩ | ⟨z, _⟩
      · exact h.dis i j d d' k1 k2 n
      · cases z
    · cases z
/-- what a slot alone holds is changed -/
theorem SRw.write (h : SRw g C A0 B H0 F ow env σ H) {i : Nat} {d0 d1 : D} {ys : List D} {o1 : HO} {ws : List V} (e : env[i]? = some (some (true, d0))) (bx1 : Box d1 ys o1 ws) (fl : D.flats ys = true) (r : Rps g C H F ys ws) :
    SRw g C A0 B H0 F ow (env.set i (some (true, d1))) σ (upd H (ow i) o1) := by
  obtain ⟨ds0, o0, vs0, bx0, h1, h2, h3, h4, h5, h6, h7⟩ := h.own i _ e
  have mvT : ∀ a vs, SqT g.K H a vs → SqT g.K (upd H (ow i) o1) a vs := fun a vs k => SqT.upd h2 bx0.mu k
  have mv : ∀ {d : D} {v : V}, Rp g C H F d v → Rp g C (upd H (ow i) o1) F d v := fun {d v} k => Rp.move mvT (fun a _ _ k1 k2 _ => ⟨by rw [upd_ne (fun z => by rw [z] at k2; exact h4 k2)]; exact k1, k2⟩) d v k
  have mvs : ∀ {d : List D} {v : List V}, Rps g C H F d v → Rps g C (upd H (ow i) o1) F d v := fun {d v} k => Rps.move mvT (fun a _ _ k1 k2 _ => ⟨by rw [upd_ne (fun z => by rw [z] at k2; exact h4 k2)]; exact k1, k2⟩) d v k
  have hi : i < env.length := (List.getElem?_eq_some_iff.mp e).1
  refine ⟨⟨fun b o k n nb m => ?_, fun b k => ?_⟩, h.fr, fun j d e' => ?_, fun j d e' => ?_, fun j l d1' d2 e1 e2 n => ?_⟩
  · have k2 := h.ext.keep b o k n nb m
    rw [upd_ne (fun z => ?_)]
    · exact k2
    · rw [z] at nb k
      rcases h5 with q | q
      · exact nb q
      · rw [z, h2] at k2
        cases k2
        exact q.mu bx0.mu k
  · by_cases hb : b = ow i
    · exact ⟨o1, bx1.mu, by rw [hb]; exact upd_same⟩
    · obtain ⟨o2, m2, q⟩ := h.ext.mu b k
      exact ⟨o2, m2, by rw [upd_ne hb]; exact q⟩
  · by_cases hj : i = j
    · subst hj
      rw [List.getElem?_set_self hi] at e'
      cases e'
    · rw [List.getElem?_set_ne hj] at e'
      obtain ⟨v, k1, k2⟩ := h.old j d e'
      exact ⟨v, k1, mv k2⟩
  · by_cases hj : i = j
    · subst hj
      rw [List.getElem?_set_self hi] at e'
      cases e'
      exact ⟨ys, o1, ws, bx1, h1, upd_same, h3, h4, h5, fl, mvs r⟩
    · rw [List.getElem?_set_ne hj] at e'
      obtain ⟨ds, o, vs, q1, q2, q3, q4, q5, q6, q7, q8⟩ := h.own j d e'
      exact ⟨ds, o, vs, q1, q2, by rw [upd_ne (fun z => h.dis i j _ d e e' hj z.symm)]; exact q3, q4, q5, q6, q7, mvs q8⟩
  · have back : ∀ {k : Nat} {d : D}, (env.set i (some (true, d1)))[k]? = some (some (true, d)) → ∃ d', env[k]? = some (some (true, d')) := fun {k d} z => by
      by_cases hk : i = k
      · subst hk
        exact ⟨_, e⟩
      · rw [List.getElem?_set_ne hk] at z
        exact ⟨d, z⟩
    obtain ⟨d1', z1⟩ := back e1
    obtain ⟨d2', z2⟩ := back e2
    exact h.dis j l d1' d2' z1 z2 n
end
end Ev

/-! Statements keep their readings: the parts. -/
namespace Ev
open PySem PySem.Spec PyProof.Rows L2 LamX

def noComp : Expr → Bool
  | .ListComp .. => false
  | .SetComp .. => false
  | .DictComp .. => false
  | _ => true
theorem noSwap {v : Expr} {t : Option Expr} {l : Nat} {env : Env} (h : noComp v = true) : swapsWith v t l env = pure false := by
  cases v <;> first | rfl | cases h
theorem noSwapS {v t : Expr} {l : Nat} {env : Env} (h : noComp v = true) : swapsWithSole [t] v l env = pure false := by
  show swapsWith v (some t) l env = pure false
  exact noSwap h
section
variable (g : G) (C : Addr) (wd : Words) (nw : Str) (call : Nat → List D → Cup → Re D) (A0 B : Addr → Prop) (H0 : Hp) (W : WX)
def SOut (E : Ends) (r : SR) : Prop := match r with
  | .next env u => ∀ σ' H', SRel g C A0 B H0 env σ' H' → Wd g C H' u → E.nx σ' H'
  | .ret d u => ∀ v H', ExtB C B H0 H' → Wd g C H' u → Rp g C H' (fun a => A0 a ∨ B a ∨ NL H0 a) d v → E.rt v H'
  | .exc k u => ∀ σ' H', ExtB C B H0 H' → Wd g C H' u → W (.ref (g.ca k)) none σ' H'
  | .bad => False
def tS (s : Sx) : TS := fun E σ H => ∃ env u, SRel g C A0 B H0 env σ H ∧ Wd g C H u ∧ SOut g C A0 B H0 W E (evS wd nw call s env u)
def tSs (s : List Sx) : TS := fun E σ H => ∃ env u, SRel g C A0 B H0 env σ H ∧ Wd g C H u ∧ SOut g C A0 B H0 W E (evSs wd nw call s env u)
end
section
variable {p : PC} {f : Fx} {wd : Words} {nw : Str} {pr : List FD} {n : Nat} {X : Cx} {m : MC} {C : Addr} {W : WX} {call : Nat → List D → Cup → Re D} {A0 B F : Addr → Prop} {H0 H H' : Hp} {ow : Nat → Addr} {env : En} {σ : L2.St} {u : Cup} {E : Ends}
theorem ExtB.more {g : G} (x : ExtB C B H0 H) (e : Ext C H H') : ExtB C B H0 H' := x.trans (B' := fun _ => False) e.toB fun _ z => z.elim
theorem SRw.inA (h : SRw (gx X f) C A0 B H0 F ow env σ H) {is : List Nat} {a : Addr} (z : AOf env ow F H is a ∨ NL H a) : A0 a ∨ B a ∨ NL H0 a := by
  rcases z with (z | ⟨j, _, ⟨d, ed⟩, rfl⟩) | z
  · exact h.fr a z.1
  · obtain ⟨_, _, _, _, _, _, _, _, h5, _⟩ := h.own j d ed
    exact h5.elim (fun q => .inr (.inl q)) fun q => .inr (.inr q)
  · exact .inr (.inr (h.ext.free a z))
/-- a statement's expression -/
theorem tE_of {e : Ex} {k : D → Cup → SR} {Q : VK} (h : SRw (gx X f) C A0 B H0 F ow env σ H) (w : Wd (gx X f) C H u) (o : SOut (gx X f) C A0 B H0 W E (ofRe (evE wd nw call e env u) k))
    (hk : ∀ d u1 v H', Post (gx X f) C H (AOf env ow F H e.fv) e.fresh d u1 v H' → SOut (gx X f) C A0 B H0 W E (k d u1) → Q v H') : tE (gx X f) C wd nw call W e σ H Q := by
  refine ⟨env, u, AOf env ow F H e.fv, h.relE _, w, ?_⟩
  cases eE : evE wd nw call e env u with
  | ok d u1 =>
    rw [eE] at o
    exact fun v H' po => hk d u1 v H' po o
  | exc j u1 =>
    rw [eE] at o
    exact fun H' x w' => o σ H' (h.ext.more (g := gx X f) x) w'
  | bad =>
    rw [eE] at o
    exact o
theorem tT_of {e : Ex} {k : D → Cup → SR} {Q : Bool → Hp → Prop} (h : SRw (gx X f) C A0 B H0 F ow env σ H) (w : Wd (gx X f) C H u) (o : SOut (gx X f) C A0 B H0 W E (ofRe (evE wd nw call e env u) k))
    (hk : ∀ d u1, SOut (gx X f) C A0 B H0 W E (k d u1) → ∃ b, d = .bl b ∧ ∀ H', Ext C H H' → Wd (gx X f) C H' u1 → Q b H') : tT (gx X f) C wd nw call W e σ H Q := by
  refine ⟨env, u, AOf env ow F H e.fv, h.relE _, w, ?_⟩
  cases eE : evE wd nw call e env u with
  | ok d u1 =>
    rw [eE] at o
    exact hk d u1 o
  | exc j u1 =>
    rw [eE] at o
    exact fun H' x w' => o σ H' (h.ext.more (g := gx X f) x) w'
  | bad =>
    rw [eE] at o
    exact o
variable (hB : ∀ a, B a → IsMu H0 a)
include hB
/-- name = e -/
theorem ps_set' {i : Nat} {e : Ex} {st : Stmt} (hi : i < X.N.length) (h : PS X st (tAsg (tE (gx X f) C wd nw call W e) (gName i))) : PS X st (tS (gx X f) C wd nw call A0 B H0 W (.set i e)) := by
  refine psImpL h fun D σ H len q => ?_
  obtain ⟨env, u, ⟨F, ow, hr⟩, w, o⟩ := q
  rw [evS] at o
  refine tE_of hr w o fun d u1 v H' po o1 => ?_
  obtain ⟨F', h', k⟩ := hr.after hB po
  exact o1 _ _ (h'.set (by omega) k) po.wd
/-- targets = e -/
theorem ps_asg' {ts : List Tg} {e : Ex} {st : Stmt} (h : PS X st (tAsg (tE (gx X f) C wd nw call W e) (tG (gx X f) C (.t ts)))) : PS X st (tS (gx X f) C wd nw call A0 B H0 W (.asg ts e)) := by
  refine psImpL h fun D σ H len q => ?_
  obtain ⟨env, u, ⟨F, ow, hr⟩, w, o⟩ := q
  rw [evS] at o
  refine tE_of hr w o fun d u1 v H' po o1 => ?_
  obtain ⟨F', h', k⟩ := hr.after hB po
  cases eP : (Tg.t ts).put d (after e d env) with
  | none =>
    simp only [eP] at o1
    exact o1.elim
  | some env1 =>
    simp only [eP] at o1
    have rd : Rp (gx X f) C H' F' d v := by
      refine k.1 ?_
      cases d <;> first | (simp [Ev.D.ownable, Ev.D.isBox]; done) | (simp [Tg.put] at eP; done)
    exact ⟨F', d, _, env1, rd, eP, fun σ' pr => o1 _ _ ⟨F', ow, h'.put pr fun _ z => z⟩ po.wd⟩
theorem ps_exp' {e : Ex} {x : Expr} {pos : Pos} (h : PE X x (tE (gx X f) C wd nw call W e)) (hs : noComp x = true) : PS X (.Expr x pos) (tS (gx X f) C wd nw call A0 B H0 W (.exp e)) := by
  refine psImpL (ps_expr h (noSwap hs)) fun D σ H len q => ?_
  obtain ⟨env, u, ⟨F, ow, hr⟩, w, o⟩ := q
  rw [evS] at o
  exact tE_of hr w o fun d u1 v H' po o1 => o1 _ _ ⟨_, ow, hr.ext' po.ext hB⟩ po.wd
theorem ps_ret' {e : Ex} {x : Expr} {pos : Pos} (h : PE X x (tE (gx X f) C wd nw call W e)) : PS X (.Return (some x) pos) (tS (gx X f) C wd nw call A0 B H0 W (.ret e)) := by
  refine psImpL (ps_ret h) fun D σ H len q => ?_
  obtain ⟨env, u, ⟨F, ow, hr⟩, w, o⟩ := q
  rw [evS] at o
  exact tE_of hr w o fun d u1 v H' po o1 => o1 _ _ (hr.ext.more (g := gx X f) po.ext) po.wd (po.rp.mono fun a z => hr.inA z)
theorem ps_ite' {c : Ex} {a b : List Sx} {x : Expr} {sa sb : List Stmt} {pos : Pos} (hc : PT X x (tT (gx X f) C wd nw call W c)) (ha : PSs X sa (tSs (gx X f) C wd nw call A0 B H0 W a)) (hb : PSs X sb (tSs (gx X f) C wd nw call A0 B H0 W b)) :
    PS X (.If x sa sb pos) (tS (gx X f) C wd nw call A0 B H0 W (.ite c a b)) := by
  refine psImpL (ps_if hc ha hb) fun D σ H len q => ?_
  obtain ⟨env, u, ⟨F, ow, hr⟩, w, o⟩ := q
  rw [evS] at o
  refine tT_of hr w o fun d u1 o1 => ?_
  cases d with
  | bl k =>
    refine ⟨k, rfl, fun H' x' w' => ?_⟩
    cases k with
    | true => exact iteT ⟨env, u1, ⟨_, ow, hr.ext' x' hB⟩, w', o1⟩
    | false => exact iteF ⟨env, u1, ⟨_, ow, hr.ext' x' hB⟩, w', o1⟩
  | _ => exact o1.elim
theorem ps_pass' {pos : Pos} : PS X (.Pass pos) (tS (gx X f) C wd nw call A0 B H0 W .pass) := by
  refine psImpL ps_pass fun D σ H len q => ?_
  obtain ⟨env, u, hr, w, o⟩ := q
  rw [evS] at o
  exact o _ _ hr w
theorem ps_raise' {k : Nat} {st : Stmt} (h : PS X st (fun _ σ H => W (.ref (f.ca k)) none σ H)) : PS X st (tS (gx X f) C wd nw call A0 B H0 W (.raise k)) := by
  refine psImpL h fun D σ H len q => ?_
  obtain ⟨env, u, ⟨F, ow, hr⟩, w, o⟩ := q
  rw [evS] at o
  exact o _ _ hr.ext w
/-! ### blocks -/
theorem pss_nil' : PSs X [] (tSs (gx X f) C wd nw call A0 B H0 W []) := by
  refine ⟨fun pins s σ H D I q => pss_nil.run pins s σ H D I ?_⟩
  obtain ⟨env, u, hr, w, o⟩ := q
  rw [evSs] at o
  exact o _ _ hr w
theorem pss_cons' {s : Sx} {ss : List Sx} {st : Stmt} {sts : List Stmt} (h : PS X st (tS (gx X f) C wd nw call A0 B H0 W s)) (hs : PSs X sts (tSs (gx X f) C wd nw call A0 B H0 W ss)) : PSs X (st :: sts) (tSs (gx X f) C wd nw call A0 B H0 W (s :: ss)) := by
  refine ⟨fun pins s' σ H D I q => (pss_cons h hs).run pins s' σ H D I ?_⟩
  obtain ⟨env, u, hr, w, o⟩ := q
  rw [evSs] at o
  refine ⟨env, u, hr, w, ?_⟩
  cases e : evS wd nw call s env u with
  | next env1 u1 =>
    rw [e] at o
    exact fun σ' H' hr' w' => ⟨env1, u1, hr', w', o⟩
  | ret d u1 =>
    rw [e] at o
    exact o
  | exc k u1 =>
    rw [e] at o
    exact o
  | bad =>
    rw [e] at o
    exact o
/-! ### x.append(e) -/
theorem ps_app' {i : Nat} {e : Ex} {nm : Str} {x : Expr} {apos npos cpos pos : Pos} (hN : X.N[i]? = some nm) (hv : Vis X.env.scope nm) (ho : okN nm = true) (h : PE X x (tE (gx X f) C wd nw call W e)) (hs : starless x = true) (hline : (apos.endLine == cpos.line) = true) :
    PS X (.Expr (.Call (.Attribute (.Name nm npos) "append" apos) [x] [] cpos) pos) (tS (gx X f) C wd nw call A0 B H0 W (.app i e)) := by
  have hb : attributeBase (.Name nm npos) "append" X.env (eval (.Name nm npos) X.env) = eval (.Name nm npos) X.env := rfl
  have hv' : PE X (.Name nm npos) (tVar i) := pe_var hN hv (okN_of ho).1 (okN_of ho).2.1
  refine psImpL (ps_expr (pe_bm PySem.F.plainAttrs_list PySem.F.slot_list_append PySem.F.type_list_append mt_append hv' (pa_cons h pa_nil (star_of hs)) hb (by rw [star_of hs]; rfl) hline (star_of hs) rfl) rfl) fun D σ H len q => ?_
  obtain ⟨env, u, ⟨F, ow, hr⟩, w, o⟩ := q
  rw [evS] at o
  split at o
  · rename_i xs ei
    obtain ⟨ds, ob, vs, e1, h1, h2, h3, h4, h5, h6, h7⟩ := hr.own i _ ei
    cases e1
    refine ⟨.ref (ow i), h1, .inl ⟨rfl, vs, SqL.of h2⟩, ?_⟩
    refine tE_of hr w o fun d u1 v H' po o1 => ?_
    split at o1
    · rename_i hf
      rw [Bool.and_eq_true, decide_eq_true_eq] at hf
      have hr2 := hr.ext' po.ext hB
      have k2 : H' (ow i) = some (.lst vs) := po.ext.lst h2 h3
      have lv := h7.length
      refine ⟨ow i, vs, v, rfl, rfl, k2, ?_, ?_⟩
      · have := big_le
        omega
      · have rr : Rps (gx X f) C H' (fun a => F a ∧ ¬ NL H a) (xs ++ [d]) (vs ++ [v]) := Rps.app (Rps.ofFlat _ _ h6 (po.ext.rps h7)) (Rps.one (Rp.ofFlat _ _ hf.1 po.rp))
        have fl : Ev.D.flats (xs ++ [d]) = true := by
          have key : ∀ ys : List Ev.D, Ev.D.flats ys = true → Ev.D.flats (ys ++ [d]) = true := by
            intro ys
            induction ys with
            | nil => intro _; simp [Ev.D.flats, hf.1]
            | cons y ys ih =>
              intro hy
              simp only [Ev.D.flats, Bool.and_eq_true] at hy
              simp only [List.cons_append, Ev.D.flats, hy.1, ih hy.2, Bool.and_self]
          exact key xs h6
        exact o1 _ _ ⟨_, ow, hr2.write ei (.lst _ _) fl rr⟩ (po.wd.chg k2 (.lst _) h3)
    · exact o1.elim
  · exact o.elim
/-! ### cup[k] = e -/
omit hB in
theorem Wd.cupSet {g : G} {u1 : Cup} (w : Wd g C H u) : Wd g C (upd H C (.lst [.int u1.1, .int u1.2])) u1 := by
  refine ⟨upd_same, fun q hq => ?_⟩
  obtain ⟨ps, a1, a2, a3⟩ := w.tabs q hq
  have k2 := w.cup
  refine ⟨ps, by rw [upd_ne (fun z => by rw [z, k2] at a1; cases a1)]; exact a1, a2, fun ps' cv hcv => ?_⟩
  obtain ⟨c0, b1, b2⟩ := a3 ps' cv hcv
  exact ⟨c0, b1, by rw [upd_ne (fun z => by rw [z, k2] at b2; unfold CodeO at b2; cases b2)]; exact b2⟩
omit hB in
theorem SRw.cupSet {g : G} {u1 : Cup} (h : SRw g C A0 B H0 F ow env σ H) (w : Wd g C H u) : SRw g C A0 B H0 F ow env σ (upd H C (.lst [.int u1.1, .int u1.2])) := by
  have k2 := w.cup
  have mvT : ∀ a vs, SqT g.K H a vs → SqT g.K (upd H C (.lst [.int u1.1, .int u1.2])) a vs := fun a vs k => SqT.upd k2 (.lst _) k
  have mv : ∀ {d : D} {v : V}, Rp g C H F d v → Rp g C (upd H C (.lst [.int u1.1, .int u1.2])) F d v := fun {d v} k => Rp.move mvT (fun a _ _ k1 k3 n => ⟨by rw [upd_ne n]; exact k1, k3⟩) d v k
  have mvs : ∀ {d : List D} {v : List V}, Rps g C H F d v → Rps g C (upd H C (.lst [.int u1.1, .int u1.2])) F d v := fun {d v} k => Rps.move mvT (fun a _ _ k1 k3 n => ⟨by rw [upd_ne n]; exact k1, k3⟩) d v k
  refine ⟨⟨fun b o k n nb m => by rw [upd_ne n]; exact h.ext.keep b o k n nb m, fun b k => ?_⟩, h.fr, fun j d e' => ?_, fun j d e' => ?_, h.dis⟩
  · by_cases hb : b = C
    · exact ⟨_, .lst _, by rw [hb]; exact upd_same⟩
    · obtain ⟨o2, m2, q⟩ := h.ext.mu b k
      exact ⟨o2, m2, by rw [upd_ne hb]; exact q⟩
  · obtain ⟨v, q1, q2⟩ := h.old j d e'
    exact ⟨v, q1, mv q2⟩
  · obtain ⟨ds, o, vs, q1, q2, q3, q4, q5, q6, q7, q8⟩ := h.own j d e'
    exact ⟨ds, o, vs, q1, q2, by rw [upd_ne q4]; exact q3, q4, q5, q6, q7, mvs q8⟩
omit hB in
theorem flats_swap {j : L2.Key} {d : Ev.D} (hd : d.flat = true) : ∀ {ks : List L2.Key} {xs : List Ev.D}, Ev.D.flats xs = true → Ev.D.flats (swapD j d ks xs) = true
  | [], _, _ => rfl
  | _ :: _, [], _ => rfl
  | k :: ks, x :: xs, h => by
    simp only [Ev.D.flats, Bool.and_eq_true] at h
    rw [swapD, Ev.D.flats, flats_swap hd h.2, Bool.and_true]
    split
    · exact hd
    · exact h.1
omit hB in
theorem flats_app {d : Ev.D} (hd : d.flat = true) : ∀ {xs : List Ev.D}, Ev.D.flats xs = true → Ev.D.flats (xs ++ [d]) = true
  | [], _ => by simp [Ev.D.flats, hd]
  | x :: xs, h => by
    simp only [Ev.D.flats, Bool.and_eq_true] at h
    rw [List.cons_append, Ev.D.flats, h.1, flats_app hd h.2]
    rfl
omit hB in
theorem flats_put {j : L2.Key} {d : Ev.D} (hd : d.flat = true) {ks : List L2.Key} {xs : List Ev.D} (h : Ev.D.flats xs = true) : Ev.D.flats (putDs ks xs j d) = true := by
  unfold putDs
  split
  · exact flats_swap hd h
  · exact flats_app hd h
omit hB in
theorem flats_set {d : Ev.D} (hd : d.flat = true) : ∀ {xs : List Ev.D} {j : Nat}, Ev.D.flats xs = true → Ev.D.flats (xs.set j d) = true
  | [], _, _ => rfl
  | x :: xs, 0, h => by
    simp only [Ev.D.flats, Bool.and_eq_true] at h
    rw [List.set_cons_zero, Ev.D.flats, hd, h.2]
    rfl
  | x :: xs, j + 1, h => by
    simp only [Ev.D.flats, Bool.and_eq_true] at h
    rw [List.set_cons_succ, Ev.D.flats, h.1, flats_set hd h.2]
    rfl
omit hB in
theorem Rps.set {A : Addr → Prop} {d : Ev.D} {v : V} (r : Rp (gx X f) C H A d v) : ∀ {j : Nat} {ds : List Ev.D} {vs : List V}, Rps (gx X f) C H A ds vs → Rps (gx X f) C H A (ds.set j d) (vs.set j v)
  | _, [], vs, h => by
    have e : vs = [] := h
    subst e
    exact h
  | 0, x :: ds, vs, h => by
    obtain ⟨w, ws, rfl, h1, h2⟩ := h
    exact ⟨v, ws, rfl, r, h2⟩
  | j + 1, x :: ds, vs, h => by
    obtain ⟨w, ws, rfl, h1, h2⟩ := h
    exact ⟨w, _, rfl, h1, Rps.set r h2⟩
/-- x[k] = v of a list, of a dict -/
def rSetB : V → V → V → Hp → (Hp → Prop) → Prop := fun o i v H Q => rSetL o i v H Q ∨ ∃ (a : Addr) (kvs : List (L2.Key × V)) (k : L2.Key), o = .ref a ∧ i = kV k ∧ H a = some (.dK kvs) ∧ kvs.length < sizeLine ∧ Q (upd H a (.dK (putK kvs k v)))
omit hB in
theorem set_box (hu : X.A.units + 1 < cLine) : PSet X rSetB := by
  intro pins s σ H o i v ov iv u Q I ro ri rv h
  rcases h with h | ⟨a, kvs, k, rfl, rfl, e, hl, q⟩
  · exact set_list pins s σ H o i v ov iv u Q I ro ri rv h
  · obtain rfl : ov = Value.ref a := ro
    exact d_setItem hu I (DPut.k e hl) ri rv fun s1 I1 => ⟨_, I1, q⟩
theorem ps_sub' (hu : X.A.units + 1 < cLine) {i : Nat} {k e : Ex} {nm : Str} {x y : Expr} {npos spos pos : Pos} (hN : X.N[i]? = some nm) (hv : Vis X.env.scope nm) (ho : okN nm = true) (h : PE X x (tE (gx X f) C wd nw call W e)) (hk : PE X y (tE (gx X f) C wd nw call W k)) (hc : noComp x = true) (hs : starless y = true) :
    PS X (.Assign [.Subscript (.Name nm npos) y spos] x pos) (tS (gx X f) C wd nw call A0 B H0 W (.sub i k e)) := by
  have hv' : PE X (.Name nm npos) (tVar i) := pe_var hN hv (okN_of ho).1 (okN_of ho).2.1
  have hg : PG X (.Subscript (.Name nm npos) y spos) (gSub (tVar i) (tE (gx X f) C wd nw call W k) rSetB) := pg_sub hv' hk (set_box hu) (fun v => by cases y <;> first | rfl | cases hs)
  refine psImpL (ps_asg h hg (noSwapS hc) rfl rfl) fun D σ H len q => ?_
  obtain ⟨env, u, ⟨F, ow, hr⟩, w, o⟩ := q
  rw [evS] at o
  split at o
  · rename_i b ei
    have hcup : σ[i]? = some (some (V.ref C)) := by
      cases b with
      | false =>
        obtain ⟨v, h1, h2⟩ := hr.old i _ ei
        cases h2
        exact h1
      | true =>
        obtain ⟨ds, o, vs, e1, _⟩ := hr.own i _ ei
        cases e1
    refine tE_of hr w o fun d u1 v H' po o1 => ?_
    refine ⟨_, hcup, ?_⟩
    have hr2 := hr.ext' po.ext hB
    refine tE_of hr2 po.wd o1 fun y u2 v2 H2 ps o2 => ?_
    have hr3 := hr2.ext' ps.ext hB
    have rd := ps.ext.rp po.rp
    split at o2
    · rename_i z
      have e1 : v2 = .int 0 := ps.rp
      have e2 : v = .int z := rd
      subst e1
      subst e2
      exact .inl ⟨C, _, 0, 0, rfl, rfl, ps.wd.cup, rfl, o2 _ _ ⟨_, ow, hr3.cupSet (u1 := (z, u2.2)) ps.wd⟩ (Wd.cupSet (u1 := (z, u2.2)) ps.wd)⟩
    · rename_i z
      have e1 : v2 = .int 1 := ps.rp
      have e2 : v = .int z := rd
      subst e1
      subst e2
      exact .inl ⟨C, _, 1, 1, rfl, rfl, ps.wd.cup, rfl, o2 _ _ ⟨_, ow, hr3.cupSet (u1 := (u2.1, z)) ps.wd⟩ (Wd.cupSet (u1 := (u2.1, z)) ps.wd)⟩
    · exact o2.elim
  · rename_i ks xs ei
    obtain ⟨ds, ob, vs, bx, h1, h2, h3, h4, h5, h6, h7⟩ := hr.own i _ ei
    obtain ⟨rfl, hl, rfl⟩ : ds = xs ∧ ks.length = vs.length ∧ ob = .dK (ks.zip vs) := by
      cases bx with
      | dic _ _ _ e => exact ⟨rfl, e, rfl⟩
    refine tE_of hr w o fun d u1 v H' po o1 => ?_
    refine ⟨_, h1, ?_⟩
    have hr2 := hr.ext' po.ext hB
    refine tE_of hr2 po.wd o1 fun y u2 v2 H2 ps o2 => ?_
    have hr3 := hr2.ext' ps.ext hB
    have x3 := po.ext.trans ps.ext
    have k2 : H2 (ow i) = some (.dK (ks.zip vs)) := x3.mu (.dK _) h2 h3
    split at o2
    · rename_i j ej
      split at o2
      · rename_i hf
        rw [Bool.and_eq_true, decide_eq_true_eq] at hf
        have hb := big_le
        refine .inr ⟨ow i, _, j, rfl, ps.rp.key ej, k2, by rw [List.length_zip]; omega, ?_⟩
        rw [putK_zip hl]
        exact o2 _ _ ⟨_, ow, hr3.write ei (.dic _ _ _ (put_len hl)) (flats_put hf.1 h6) (Rps.put (ks := ks) (Rp.ofFlat _ _ hf.1 (ps.ext.rp po.rp)) (Rps.ofFlat _ _ h6 (x3.rps h7)))⟩ (ps.wd.chg k2 (.dK _) h3)
      · exact o2.elim
    · exact o2.elim
  · rename_i xs ei
    obtain ⟨ds, ob, vs, bx, h1, h2, h3, h4, h5, h6, h7⟩ := hr.own i _ ei
    obtain ⟨rfl, rfl⟩ : ds = xs ∧ ob = .lst vs := by
      cases bx with
      | lst _ _ => exact ⟨rfl, rfl⟩
    refine tE_of hr w o fun d u1 v H' po o1 => ?_
    refine ⟨_, h1, ?_⟩
    have hr2 := hr.ext' po.ext hB
    refine tE_of hr2 po.wd o1 fun y u2 v2 H2 ps o2 => ?_
    have hr3 := hr2.ext' ps.ext hB
    have x3 := po.ext.trans ps.ext
    have k2 : H2 (ow i) = some (.lst vs) := x3.mu (.lst _) h2 h3
    split at o2
    · rename_i nn
      split at o2
      · rename_i j ej
        split at o2
        · rename_i hf
          have ev : v2 = .int nn := ps.rp
          subst ev
          refine .inl ⟨ow i, vs, nn, j, rfl, rfl, k2, by rw [← h7.length]; exact ej, ?_⟩
          exact o2 _ _ ⟨_, ow, hr3.write ei (.lst _ _) (flats_set hf h6) (Rps.set (Rp.ofFlat _ _ hf (ps.ext.rp po.rp)) (Rps.ofFlat _ _ h6 (x3.rps h7)))⟩ (ps.wd.chg k2 (.lst _) h3)
        · exact o2.elim
      · exact o2.elim
    · exact o2.elim
  · exact o.elim
end
end Ev

/-! Loops; a, b = x, y. -/
namespace Ev
open PySem PySem.Spec PyProof.Rows L2 LamX
section
variable {p : PC} {f : Fx} {wd : Words} {nw : Str} {pr : List FD} {n : Nat} {X : Cx} {m : MC} {C : Addr} {W : WX} {call : Nat → List D → Cup → Re D} {A0 B F : Addr → Prop} {H0 H H' : Hp} {ow : Nat → Addr} {env : En} {σ : L2.St} {u : Cup} {E : Ends}
/-- lists that stand at the start may be held to stay -/
theorem SRw.more {g : G} (h : SRw g C A0 B H0 F ow env σ H) : SRw g C A0 B H0 (fun a => F a ∨ (A0 a ∧ ¬ B a ∧ ¬ NL H0 a)) ow env σ H := by
  refine ⟨h.ext, fun a ha => ha.elim (h.fr a) fun z => .inl z.1, fun i d e => ?_, fun i d e => ?_, h.dis⟩
  · obtain ⟨v, h1, h2⟩ := h.old i d e
    exact ⟨v, h1, h2.mono fun a => .inl⟩
  · obtain ⟨ds, o, vs, e1, h1, h2, h3, h4, h5, h6, h7⟩ := h.own i d e
    refine ⟨ds, o, vs, e1, h1, h2, h3, fun z => ?_, h5, h6, h7.mono fun a => .inl⟩
    rcases z with z | z
    · exact h4 z
    · rcases h5 with q | q
      · exact z.2.1 q
      · exact z.2.2 q
/-- what the loop's body may change: the lists that slots hold alone at its start -/
def BOf (env : En) (ow : Nat → Addr) (a : Addr) : Prop := ∃ i d, env[i]? = some (some (true, d)) ∧ a = ow i
theorem SRw.bof {g : G} (h : SRw g C A0 B H0 F ow env σ H) {a : Addr} (z : BOf env ow a) : IsMu H a ∧ ¬ F a ∧ (B a ∨ NL H0 a) := by
  obtain ⟨i, d, e, rfl⟩ := z
  obtain ⟨ds, o, vs, bx, _, h2, _, h4, h5, _⟩ := h.own i d e
  exact ⟨⟨o, bx.mu, h2⟩, h4, h5⟩
/-- the relation begins anew -/
theorem SRw.anew {g : G} (h : SRw g C A0 B H0 F ow env σ H) : SRw g C F (BOf env ow) H F ow env σ H := by
  refine ⟨⟨fun _ _ k _ _ _ => k, fun _ k => k⟩, fun a ha => .inl ha, h.old, fun i d e => ?_, h.dis⟩
  obtain ⟨ds, o, vs, e1, h1, h2, h3, h4, h5, h6, h7⟩ := h.own i d e
  exact ⟨ds, o, vs, e1, h1, h2, h3, h4, .inl ⟨i, d, e, rfl⟩, h6, h7⟩
/-- .. and goes back -/
theorem SRw.incl {g : G} (h : SRw g C A0 B H0 F ow env σ H) {a : Addr} (z : F a ∨ BOf env ow a ∨ NL H a) : A0 a ∨ B a ∨ NL H0 a := by
  rcases z with z | z | z
  · exact h.fr a z
  · exact (h.bof z).2.2.elim (fun q => .inr (.inl q)) fun q => .inr (.inr q)
  · exact .inr (.inr (h.ext.free a z))
theorem SRw.extB {g : G} (h : SRw g C A0 B H0 F ow env σ H) (x : ExtB C (BOf env ow) H H') : ExtB C B H0 H' := h.ext.trans x fun c z => ⟨(h.bof z).1, (h.bof z).2.2⟩
theorem SRel.back {g : G} (h : SRw g C A0 B H0 F ow env σ H) {env2 : En} {σ2 : L2.St} {H2 : Hp} (k : SRel g C F (BOf env ow) H env2 σ2 H2) : SRel g C A0 B H0 env2 σ2 H2 := by
  obtain ⟨F2, ow2, r⟩ := k
  refine ⟨F2, ow2, h.extB r.ext, fun a ha => h.incl (r.fr a ha), r.old, fun i d e => ?_, r.dis⟩
  obtain ⟨ds, o, vs, e1, h1, h2, h3, h4, h5, h6, h7⟩ := r.own i d e
  refine ⟨ds, o, vs, e1, h1, h2, h3, h4, ?_, h6, h7⟩
  rcases h5 with q | q
  · exact (h.bof q).2.2
  · exact .inr (h.ext.free _ q)
/-- one turn of a for -/
def turnS (wd : Words) (nw : Str) (call : Nat → List D → Cup → Re D) (tg : Tg) (body : List Sx) (x : D) (env1 : En) (u2 : Cup) : SR := match tg.put x env1 with
  | some env2 => evSs wd nw call body env2 u2
  | none => .bad
theorem evS_for {tg : Tg} {src : Ex} {body : List Sx} : evS wd nw call (.for_ tg src body) env u = ofRe (evE wd nw call src env u) fun d u1 => match d.items with
    | some xs => forLoop (turnS wd nw call tg body) xs (freeze (src.fz d) env) u1
    | none => .bad := by
  rw [evS]
  rfl
/-- the body's reading, for some start of the relation -/
def tbA (g : G) (C : Addr) (wd : Words) (nw : Str) (call : Nat → List D → Cup → Re D) (W : WX) (body : List Sx) : TS := fun D σ H => ∃ (A1 B1 : Addr → Prop) (H1 : Hp), (∀ a, B1 a → IsMu H1 a) ∧ tSs g C wd nw call A1 B1 H1 W body D σ H
def ForI (J : It) (g : TG) (tb : TS) (D : Ends) (σ : L2.St) (H : Hp) : Prop := ∃ W : Nat → Nat → L2.St → Hp → Prop, (∃ m, W 0 m σ H) ∧ ∀ i m σ H, W i m σ H →
  (J.stop i H ∧ D.nx σ H) ∨ (J.go i H ∧ ∃ N : L2.St → Hp → Prop, (∀ σ' H', N σ' H' → ∃ m', m' < m ∧ W (i + 1) m' σ' H') ∧ ∀ x H', J.yld i H x H' → g x σ H' fun σ2 H2 => tb { D with nx := N, ct := N, bk := D.nx } σ2 H2)
/-- the turns of a for, once its iterator has come -/
theorem for_core {tg : Tg} {body : List Sx} {D : Ends} {is : List Nat} {xs : List Ev.D} {u1 : Cup} {J : It} {H1 : Hp} (hr : SRw (gx X f) C A0 B H0 F ow env σ H) (e1 : Ext C H H1) (w1 : Wd (gx X f) C H1 u1) (gv : Gives (gx X f) C H H1 (AOf env ow F H is) xs J)
    (o : SOut (gx X f) C A0 B H0 W D (forLoop (turnS wd nw call tg body) xs (freeze is env) u1)) : ForI J (tG (gx X f) C tg) (tbA (gx X f) C wd nw call W body) D σ H1 := by
  obtain ⟨Gd, Y, wk, hG, hY⟩ := gv
  have h1 := hr.fast e1 is
  have hk := h1.anew
  have okB : OkB H1 (fun a => AOf env ow F H is a ∨ NL H a) (BOf (freeze is env) ow) := fun a z => ⟨(h1.bof z).1, (h1.bof z).2.1⟩
  have hB1 : ∀ a, BOf (freeze is env) ow a → IsMu H1 a := fun a z => (h1.bof z).1
  refine for_it wk (fun i σ2 H2 => ∃ env2 u2, SRel (gx X f) C (fun a => AOf env ow F H is a ∨ NL H a) (BOf (freeze is env) ow) H1 env2 σ2 H2 ∧ Wd (gx X f) C H2 u2 ∧ SOut (gx X f) C A0 B H0 W D (forLoop (turnS wd nw call tg body) (xs.drop i) env2 u2))
    ⟨_, u1, ⟨_, _, hk⟩, w1, by rw [List.drop_zero]; exact o⟩ (fun i σ2 H2 _ ⟨_, _, ⟨_, _, r⟩, _⟩ => hG _ H2 okB r.ext) ?_ ?_
  · rintro i x σ2 H2 H3 hi ⟨env2, u2, ⟨F2, ow2, r⟩, w2, o2⟩ y
    obtain ⟨d1, hd1, e3, w3, r3⟩ := hY _ i H2 x H3 u2 okB hi r.ext w2 y
    have ed1 : d1 = xs[i] := by
      rw [List.getElem?_eq_getElem hi] at hd1
      exact (Option.some.inj hd1).symm
    rw [List.drop_eq_getElem_cons hi, ← ed1] at o2
    simp only [forLoop] at o2
    cases eP : tg.put d1 env2 with
    | none =>
      simp only [turnS, eP] at o2
      exact o2.elim
    | some env3 =>
    simp only [turnS, eP] at o2
    have r4 := (r.ext' e3 hB1).more
    refine ⟨_, d1, env2, env3, r3, eP, fun σ3 pr => ?_⟩
    have r5 := r4.put pr (fun a z => .inr ⟨z.1, fun q => (okB a q).2 z.1, z.2⟩)
    refine ⟨_, _, H1, hB1, env3, u2, ⟨_, _, r5⟩, w3, ?_⟩
    cases eS : evSs wd nw call body env3 u2 with
    | next env4 u4 =>
      rw [eS] at o2
      exact fun σ' H' k' w' => ⟨env4, u4, k', w', o2⟩
    | ret d2 u4 =>
      rw [eS] at o2
      exact fun v H' x' w' rv => o2 v H' (h1.extB x') w' (rv.mono fun a z => h1.incl z)
    | exc k2 u4 =>
      rw [eS] at o2
      exact fun σ' H' x' w' => o2 σ' H' (h1.extB x') w'
    | bad =>
      rw [eS] at o2
      exact o2
  · rintro σ2 H2 ⟨env2, u2, k, w2, o2⟩
    rw [List.drop_length] at o2
    simp only [forLoop] at o2
    exact o2 _ _ (SRel.back h1 k) w2
theorem ps_for' (hp : PassesOwn (model X.prog X.w) X.A X.env X.xe) (hc : X.calm = true) (hB : ∀ a, B a → IsMu H0 a) {tg : Tg} {src : Ex} {body : List Sx} {tg' it' : Expr} {sts : List Stmt} {pos : Pos} (hi : PI X tg' it' (tJ (gx X f) C wd nw call W src)) (hg : PG X tg' (tG (gx X f) C tg))
    (hb : ∀ (A1 B1 : Addr → Prop) (H1 : Hp), (∀ a, B1 a → IsMu H1 a) → PSs X sts (tSs (gx X f) C wd nw call A1 B1 H1 W body)) (hs : starless it' = true) : PS X (.For tg' it' sts [] pos) (tS (gx X f) C wd nw call A0 B H0 W (.for_ tg src body)) := by
  refine ⟨fun pins s σ H D I q => ?_⟩
  obtain ⟨env, u, ⟨F, ow, hr⟩, w, o⟩ := q
  have hbody : PSs X sts (tbA (gx X f) C wd nw call W body) := ⟨fun pins s σ H D I ⟨A1, B1, H1, h1, q⟩ => (hb A1 B1 H1 h1).run pins s σ H D I q⟩
  refine (ps_for hp hc hi hg hbody (fun x => by cases it' <;> first | rfl | cases hs)).run pins s σ H D I ?_
  rw [evS_for] at o
  refine ⟨env, u, AOf env ow F H src.fv, hr.relE _, w, ?_⟩
  cases eE : evE wd nw call src env u with
  | bad =>
    rw [eE] at o
    exact o
  | exc j u1 =>
    rw [eE] at o
    exact fun H' x w' => o σ H' (hr.ext.more (g := gx X f) x) w'
  | ok d u1 =>
  rw [eE] at o
  cases ed : d.items with
  | none =>
    simp only [ofRe, ed] at o
    exact o.elim
  | some xs =>
  simp only [ofRe, ed] at o
  refine ⟨xs, ed, fun J H1 e1 w1 gv => for_core (is := src.fz d) hr e1 w1 ?_ o⟩
  unfold Ex.fz
  unfold srcA at gv
  cases hc2 : src.fresh && d.ownable with
  | false =>
    rw [hc2] at gv
    exact gv
  | true =>
    rw [hc2] at gv
    exact Gives.mono gv fun a z => z.elim
/-- while -/
theorem ps_while' (hp : PassesOwn (model X.prog X.w) X.A X.env X.xe) (hB : ∀ a, B a → IsMu H0 a) {c : Ex} {body : List Sx} {x : Expr} {sts : List Stmt} {pos : Pos} (hc : PT X x (tT (gx X f) C wd nw call W c)) (hb : PSs X sts (tSs (gx X f) C wd nw call A0 B H0 W body)) :
    PS X (.While x sts [] pos) (tS (gx X f) C wd nw call A0 B H0 W (.while_ c body)) := by
  refine ⟨fun pins s σ H D I q => (ps_while hp hc hb).run pins s σ H D I ?_⟩
  obtain ⟨env, u, hr, w, o⟩ := q
  rw [evS] at o
  refine ⟨fun m σ2 H2 => ∃ env2 u2, SRel (gx X f) C A0 B H0 env2 σ2 H2 ∧ Wd (gx X f) C H2 u2 ∧ SOut (gx X f) C A0 B H0 W D (whileLoop (fun env u => evE wd nw call c env u) (fun env u => evSs wd nw call body env u) m env2 u2), ⟨4096, env, u, hr, w, o⟩, ?_⟩
  rintro m σ2 H2 ⟨env2, u2, ⟨F2, ow2, r2⟩, w2, o2⟩
  cases m with
  | zero => exact o2.elim
  | succ k =>
  rw [whileLoop] at o2
  refine tT_of r2 w2 o2 fun d u3 o3 => ?_
  cases d with
  | bl b =>
    refine ⟨b, rfl, fun H3 x3 w3 => ?_⟩
    have r3 : SRel (gx X f) C A0 B H0 env2 σ2 H3 := ⟨_, ow2, r2.ext' x3 hB⟩
    cases b with
    | false =>
      rw [if_neg Bool.false_ne_true]
      exact o3 _ _ r3 w3
    | true =>
      rw [if_pos rfl]
      refine ⟨_, fun σ' H' q => ⟨k, Nat.lt_succ_self k, q⟩, env2, u3, r3, w3, ?_⟩
      cases eS : evSs wd nw call body env2 u3 with
      | next env4 u4 =>
        rw [eS] at o3
        exact fun σ' H' k' w' => ⟨env4, u4, k', w', o3⟩
      | ret d2 u4 =>
        rw [eS] at o3
        exact o3
      | exc k2 u4 =>
        rw [eS] at o3
        exact o3
      | bad =>
        rw [eS] at o3
        exact o3
  | _ => exact o3.elim
theorem flats_dl : ∀ {xs : List Ev.D}, Ev.D.flats xs = true → Ev.D.flats xs.dropLast = true
  | [], _ => rfl
  | [x], _ => rfl
  | x :: y :: r, h => by
    simp only [Ev.D.flats, Bool.and_eq_true] at h
    rw [List.dropLast_cons₂, Ev.D.flats, h.1, flats_dl (by simp only [Ev.D.flats, Bool.and_eq_true]; exact h.2)]
    rfl
theorem Rps.dl {g : G} {A : Addr → Prop} : ∀ {ds : List Ev.D} {vs : List V}, Rps g C H A ds vs → Rps g C H A ds.dropLast vs.dropLast
  | [], vs, h => by
    have e : vs = [] := h
    subst e
    exact h
  | [x], vs, h => by
    obtain ⟨v, r, rfl, h1, h2⟩ := h
    have e : r = [] := h2
    subst e
    rfl
  | x :: y :: r, vs, h => by
    obtain ⟨v, r1, rfl, h1, h2⟩ := h
    obtain ⟨v2, r2, rfl, h3, h4⟩ := h2
    rw [List.dropLast_cons₂, List.dropLast_cons₂]
    exact ⟨v, _, rfl, h1, Rps.dl ⟨v2, r2, rfl, h3, h4⟩⟩
theorem flat_at : ∀ {xs : List Ev.D} {i : Nat} {d : Ev.D}, Ev.D.flats xs = true → xs[i]? = some d → d.flat = true
  | [], _, _, _, e => by simp at e
  | x :: xs, 0, d, h, e => by
    simp only [Ev.D.flats, Bool.and_eq_true] at h
    have e : x = d := by simpa using e
    rw [← e]
    exact h.1
  | x :: xs, i + 1, d, h, e => by
    simp only [Ev.D.flats, Bool.and_eq_true] at h
    exact flat_at h.2 (by simpa using e)
/-- what x.pop() asks and gives -/
theorem pop_of {tb : VK} {i : Nat} {xs : List Ev.D} {d : Ev.D} (hr : SRw (gx X f) C A0 B H0 F ow env σ H) (w : Wd (gx X f) C H u) (ei : env[i]? = some (some (true, .lst xs))) (ed : xs[xs.length - 1]? = some d)
    (k : ∀ v H', SRw (gx X f) C A0 B H0 F ow (env.set i (some (true, .lst xs.dropLast))) σ H' → Wd (gx X f) C H' u → d.flat = true → Rp (gx X f) C H' F d v → tb v H') : tBM0 X.K "list" rPop (tVar i) σ H tb := by
  obtain ⟨ds, ob, vs, bx, h1, h2, h3, h4, h5, h6, h7⟩ := hr.own i _ ei
  obtain ⟨rfl, rfl⟩ : ds = xs ∧ ob = .lst vs := by
    cases bx with
    | lst _ _ => exact ⟨rfl, rfl⟩
  obtain ⟨v, e1, e2⟩ := h7.get ed
  refine ⟨.ref (ow i), h1, .inl ⟨rfl, vs, SqL.of h2⟩, ow i, vs, v, rfl, rfl, h2, by rw [← h7.length]; exact e1, ?_⟩
  have r2 := hr.write ei (.lst ds.dropLast vs.dropLast) (flats_dl h6) (Rps.dl h7)
  have w2 : Wd (gx X f) C (upd H (ow i) (.lst vs.dropLast)) u := w.chg h2 (.lst _) h3
  have fd := flat_at h6 ed
  have mv : Rp (gx X f) C (upd H (ow i) (.lst vs.dropLast)) F d v := Rp.ofFlat _ _ fd (Rp.move (fun a vs k => SqT.upd h2 (.lst _) k) (fun a _ _ k1 k2 _ => ⟨by rw [upd_ne (fun z => by rw [z] at k2; exact h4 k2)]; exact k1, k2⟩) d v e2)
  exact k v _ r2 w2 fd mv
theorem ps_pop' {tg : Tg} {i : Nat} {st : Stmt} (h : PS X st (tAsg (tBM0 X.K "list" rPop (tVar i)) (tG (gx X f) C tg))) : PS X st (tS (gx X f) C wd nw call A0 B H0 W (.pop tg i)) := by
  refine psImpL h fun D σ H len q => ?_
  obtain ⟨env, u, ⟨F, ow, hr⟩, w, o⟩ := q
  rw [evS] at o
  split at o
  · rename_i xs ei
    split at o
    · rename_i d ed
      refine pop_of hr w ei ed fun v H' r2 w2 fd rv => ?_
      split at o
      · rename_i env1 eP
        exact ⟨F, d, _, env1, rv, eP, fun σ' pr => o _ _ ⟨F, ow, r2.put pr fun _ z => z⟩ w2⟩
      · exact o.elim
    · exact o.elim
  · exact o.elim
/-- for tg in f(t[x.pop()]) -/
def tPopIx (K : PySem.W.Frag) (x i : Nat) : TE := tOp (rIx K) (tVar x) (tBM0 K "list" rPop (tVar i))
theorem ps_forP' (hp : PassesOwn (model X.prog X.w) X.A X.env X.xe) (hc : X.calm = true) (hB : ∀ a, B a → IsMu H0 a) {tg : Tg} {k x i : Nat} {body : List Sx} {tg' it' : Expr} {sts : List Stmt} {pos : Pos} (hx : x ≠ i)
    (hi : PE X it' (tCallS (SpF (gx X f) (run wd nw pr n k)) (WE W) (tCons (tPopIx X.K x i) tNil))) (hg : PG X tg' (tG (gx X f) C tg))
    (hb : ∀ (A1 B1 : Addr → Prop) (H1 : Hp), (∀ a, B1 a → IsMu H1 a) → PSs X sts (tSs (gx X f) C wd nw (run wd nw pr n) A1 B1 H1 W body)) (hs : starless it' = true) : PS X (.For tg' it' sts [] pos) (tS (gx X f) C wd nw (run wd nw pr n) A0 B H0 W (.forP tg k x i body)) := by
  refine ⟨fun pins s σ H D I q => ?_⟩
  obtain ⟨env, u, ⟨F, ow, hr⟩, w, o⟩ := q
  have hbody : PSs X sts (tbA (gx X f) C wd nw (run wd nw pr n) W body) := ⟨fun pins s σ H D I ⟨A1, B1, H1, h1, q⟩ => (hb A1 B1 H1 h1).run pins s σ H D I q⟩
  refine (ps_for hp hc (pi_seq hi) hg hbody (fun x => by cases it' <;> first | rfl | cases hs)).run pins s σ H D I ?_
  rw [evS] at o
  split at o
  case h_2 => exact o.elim
  rename_i xs bt t ei ex
  split at o
  case h_2 => exact o.elim
  rename_i d ed
  split at o
  case h_2 => exact o.elim
  rename_i y ey
  -- the place, then the pop
  obtain ⟨vt, g1, _⟩ := hr.relE [x] x (by simp) bt t ex
  refine ⟨vt, g1, pop_of hr w ei ed fun v H1 r1 w1 fd rv => ?_⟩
  have ex1 : (env.set i (some (true, .lst xs.dropLast)))[x]? = some (some (bt, t)) := by rw [List.getElem?_set_ne fun e => hx e.symm, ex]
  obtain ⟨vt2, g2, g3⟩ := r1.relE [x] x (by simp) bt t ex1
  rw [g1] at g2
  cases g2
  -- what is there
  have fin : ∀ {j : Int} {ds : List Ev.D} {vs : List V}, v = .int j → atI ds j = some y → Rps (gx X f) C H1 (AOf (env.set i (some (true, .lst xs.dropLast))) ow F H1 [x]) ds vs →
      ∃ z, atI vs j = some z ∧ SpF (gx X f) (run wd nw pr n k) [z] H1 (fun x H2 => (∃ a, x = .ref a ∧ (∃ xs, SqL X.K H2 a xs) ∧ ForI (Itl X.K a) (tG (gx X f) C tg) (tbA (gx X f) C wd nw (run wd nw pr n) W body) D σ H2) ∨ (∃ a, x = .ref a ∧ (∃ xs, SqT X.K H2 a xs) ∧ ForI (Itt X.K a) (tG (gx X f) C tg) (tbA (gx X f) C wd nw (run wd nw pr n) W body) D σ H2)) (WE W σ) := fun {j ds vs} ev ea rs => by
    obtain ⟨z, e1, e2⟩ := Rps.at rs ea
    refine ⟨z, e1, C, _, [y], u, ⟨z, [], rfl, e2, rfl⟩, w1, ?_⟩
    cases er : run wd nw pr n k [y] u with
    | bad =>
      rw [er] at o
      exact o.elim
    | exc j2 u2 =>
      rw [er] at o
      exact fun H' x' w' => o σ H' (r1.ext.more (g := gx X f) x') w'
    | ok r u2 =>
      rw [er] at o
      intro v2 H2 x2 w2 rr
      simp only [ofRe] at o
      cases r with
      | tup es =>
        simp only [Ev.D.items] at o
        obtain ⟨a, ws, rfl, h1, h2⟩ := rr
        exact .inr ⟨a, rfl, ⟨ws, h1⟩, for_core r1 x2 w2 (gives_of w2 walk_tup (fun B H2 hB e => e.sqT ⟨_, w2.cup⟩ (fun a z => (hB a z).1) h1) h2) o⟩
      | lst es =>
        simp only [Ev.D.items] at o
        obtain ⟨a, ws, rfl, h1, h3, h4, h2⟩ := rr
        exact .inl ⟨a, rfl, ⟨ws, SqL.of h1⟩, for_core r1 x2 w2 (gives_of w2 walk_list (fun B H2 hB e => e.sqL h1 h4 fun z => (hB a z).2 h3) h2) o⟩
      | _ => exact o.elim
  unfold popAt at ey
  cases t <;> first | (cases ey; done) | skip
  all_goals cases d <;> first | (cases ey; done) | skip
  · rename_i ds j
    have ev : v = .int j := rv
    obtain ⟨a, vs, rfl, h1, h2⟩ := g3
    obtain ⟨z, e1, e2⟩ := fin ev ey h2
    subst ev
    exact .inr (.inl ⟨a, vs, j, z, rfl, rfl, h1, e1, e2⟩)
  · rename_i ds j
    have ev : v = .int j := rv
    obtain ⟨a, vs, rfl, h1, _, _, h2⟩ := g3
    obtain ⟨z, e1, e2⟩ := fin ev ey h2
    subst ev
    exact .inl ⟨a, vs, j, z, rfl, rfl, SqL.of h1, e1, e2⟩

/-! ### a, b, .. = x, y, .. -/
/-- the heap has grown, what is kept is kept -/
theorem Keep.up {g : G} {b : Bool} {d : D} {v : V} (x : Ext C H H') (h : Keep g C B H0 H F ow env b d v) : Keep g C B H0 H' (fun a => F a ∧ ¬ NL H a) ow env b d v := by
  refine ⟨fun eb => x.rp (h.1 eb).tight, fun eb => ?_⟩
  obtain ⟨ds, o, p, vs, e1, e2, h1, h2, h3, h4, h5, h6, h7⟩ := h.2 eb
  exact ⟨ds, o, p, vs, e1, e2, x.mu e1.mu h1 h2, h2, fun z => h3 z.1, h4, h5, Rps.ofFlat _ _ h5 (x.rps h6), h7⟩
/-- the values that their slots alone shall hold -/
def Owned : List Ex → List D → List V → V → Prop
  | e :: es, d :: ds, v :: vs, z => ((e.fresh && d.ownable) = true ∧ v = z) ∨ Owned es ds vs z
  | _, _, _, _ => False
def KeepL (g : G) (C : Addr) (B : Addr → Prop) (H0 H' : Hp) (F : Addr → Prop) (ow : Nat → Addr) (env : En) : List Ex → List D → List V → Prop
  | [], ds, vs => ds = [] ∧ vs = []
  | e :: es, ds, vs => ∃ d r v w, ds = d :: r ∧ vs = v :: w ∧ Keep g C B H0 H' F ow env (e.fresh && d.ownable) d v ∧ ((e.fresh && d.ownable) = true → ∀ z, Owned es r w z → v ≠ z) ∧ KeepL g C B H0 H' F ow env es r w
def setPs : List Nat → List V → L2.St → L2.St
  | i :: is, v :: vs, σ => setPs is vs (σ.set i (some v))
  | _, _, σ => σ
theorem setPs_len : ∀ {is : List Nat} {vs : List V} {σ : L2.St}, (setPs is vs σ).length = σ.length
  | [], _, _ => rfl
  | _ :: _, [], _ => rfl
  | i :: is, v :: vs, σ => by rw [setPs, setPs_len, List.length_set]
theorem KeepL.len {g : G} : ∀ {es : List Ex} {ds : List D} {vs : List V}, KeepL g C B H0 H F ow env es ds vs → vs.length = es.length
  | [], _, _, h => by rw [h.2]; rfl
  | e :: es, _, _, ⟨d, r, v, w, _, e2, _, _, k⟩ => by rw [e2, List.length_cons, List.length_cons, k.len]
theorem KeepL.next {g : G} {i : Nat} {b1 : Bool} {d1 : D} {v1 : V} (k1 : Keep g C B H0 H F ow env b1 d1 v1) : ∀ {es : List Ex} {ds : List D} {vs : List V}, (b1 = true → ∀ z, Owned es ds vs z → v1 ≠ z) → KeepL g C B H0 H F ow env es ds vs → KeepL g C B H0 H F (owSet b1 v1 i ow) (env.set i (some (b1, d1))) es ds vs
  | [], _, _, _, h => h
  | e :: es, _, _, n, ⟨d, r, v, w, e1, e2, k, m, ks⟩ => by
    subst e1
    subst e2
    exact ⟨d, r, v, w, rfl, rfl, k1.next k fun z1 z2 => n z1 v (.inl ⟨z2, rfl⟩), m, ks.next k1 fun z1 z hz => n z1 z (.inr hz)⟩
theorem KeepL.set {g : G} : ∀ {is : List Nat} {es : List Ex} {ds : List D} {vs : List V} {ow : Nat → Addr} {env : En} {σ : L2.St}, is.length = es.length → (∀ i ∈ is, i < σ.length) → SRw g C A0 B H0 F ow env σ H → KeepL g C B H0 H F ow env es ds vs → SRel g C A0 B H0 (setPar is es ds env) (setPs is vs σ) H
  | [], [], _, _, ow, env, σ, _, _, hr, h => by
    rw [h.1, h.2]
    exact ⟨F, ow, hr⟩
  | [], _ :: _, _, _, _, _, _, hl, _, _, _ => by simp at hl
  | _ :: _, [], _, _, _, _, _, hl, _, _, _ => by simp at hl
  | i :: is, e :: es, _, _, ow, env, σ, hl, hi, hr, ⟨d, r, v, w, e1, e2, k, m, ks⟩ => by
    subst e1
    subst e2
    rw [setPar, setPs]
    exact KeepL.set (by simpa using hl) (fun j hj => by rw [List.length_set]; exact hi j (List.mem_cons_of_mem _ hj)) (hr.setW (hi i List.mem_cons_self) k) (ks.next k m)
def tCs (g : G) (C : Addr) (wd : Words) (nw : Str) (call : Nat → List D → Cup → Re D) (W : WX) : List Ex → TA
  | [] => tNil
  | e :: es => tCons (tE g C wd nw call W e) (tCs g C wd nw call W es)
def chkP (env : En) (q : Ex × D) : Bool := (q.1.fresh && q.2.ownable) || q.2.flat || unowned env q.1.fv
theorem freeze_nil {env : En} : freeze [] env = env := by
  refine List.ext_getElem? fun i => ?_
  rw [freeze_at]
  cases env[i]? with
  | none => rfl
  | some s =>
    cases s with
    | none => rfl
    | some q => obtain ⟨b, d⟩ := q; simp [frz]
theorem Keep.upU {g : G} {H H' : Hp} {F : Addr → Prop} {b : Bool} {d : Ev.D} {v : V} (k : Keep g C B H0 H F ow env b d v) (x : Ext C H H') : Keep g C B H0 H' (fun a => AOf env ow F H [] a ∨ NL H a) ow env b d v := by
  refine ⟨fun eb => (x.rp (k.1 eb).tight).mono fun a ha => .inl (.inl ha), fun eb => ?_⟩
  obtain ⟨ds, o, p, vs, bx, rfl, h1, h2, h3, h4, h5, h6, h7⟩ := k.2 eb
  refine ⟨ds, o, p, vs, bx, rfl, x.mu bx.mu h1 h2, h2, ?_, h4, h5, Rps.ofFlat _ _ h5 (x.rps h6), h7⟩
  rintro ((z | ⟨_, hj, _⟩) | z)
  · exact h3 z.1
  · cases hj
  · exact z.mu bx.mu h1
theorem SRw.afterU {g : G} {H H' : Hp} {F : Addr → Prop} (h : SRw g C A0 B H0 F ow env σ H) {e : Ex} {d : Ev.D} {u : Cup} {v : V} (po : Post g C H (AOf env ow F H e.fv) e.fresh d u v H') (hu : unowned env e.fv = true) (hf : (e.fresh && d.ownable) = false) :
    SRw g C A0 B H0 (fun a => AOf env ow F H [] a ∨ NL H a) ow env σ H' ∧ Keep g C B H0 H' (fun a => AOf env ow F H [] a ∨ NL H a) ow env (e.fresh && d.ownable) d v := by
  have k := h.fast po.ext []
  rw [freeze_nil] at k
  refine ⟨k, fun _ => po.rp.mono fun a ha => ?_, fun z => by rw [hf] at z; cases z⟩
  rcases ha with (z | ⟨i, hi, ⟨d', ed⟩, _⟩) | z
  · exact .inl (.inl z)
  · unfold unowned at hu
    have q := List.all_eq_true.mp hu i hi
    rw [ed] at q
    cases q
  · exact .inr z
/-- how the values of a, b, .. come -/
theorem par_walk (hB : ∀ a, B a → IsMu H0 a) : ∀ {es : List Ex} {F : Addr → Prop} {H : Hp} {u : Cup} {R : List V → Hp → Prop}, SRw (gx X f) C A0 B H0 F ow env σ H → Wd (gx X f) C H u →
    (match evL wd nw call es env u with
      | .ok ds u' => (es.zip ds).all (chkP env) = true ∧ ∀ vs H' F', SRw (gx X f) C A0 B H0 F' ow env σ H' → Wd (gx X f) C H' u' → KeepL (gx X f) C B H0 H' F' ow env es ds vs → (∀ z, Owned es ds vs z → ∀ p, z = .ref p → NL H p) → (∀ b d v, Keep (gx X f) C B H0 H F ow env b d v → Keep (gx X f) C B H0 H' F' ow env b d v) → R vs H'
      | .exc k u' => ∀ H', ExtB C B H0 H' → Wd (gx X f) C H' u' → W (.ref (f.ca k)) none σ H'
      | .bad => False) → tCs (gx X f) C wd nw call W es σ H R
  | [], F, H, u, R, hr, w, o => by
    simp only [evL] at o
    exact o.2 [] H F hr w ⟨rfl, rfl⟩ (fun z hz => hz.elim) fun _ _ _ k => k
  | e :: es, F, H, u, R, hr, w, o => by
    rw [evL] at o
    refine ⟨env, u, AOf env ow F H e.fv, hr.relE _, w, ?_⟩
    cases q1 : evE wd nw call e env u with
    | bad =>
      rw [q1] at o
      exact o
    | exc k u1 =>
      rw [q1] at o
      exact fun H' x' w' => o H' (hr.ext.more (g := gx X f) x') w'
    | ok d u1 =>
    rw [q1] at o
    intro v H1 po
    simp only [Re.bind] at o
    cases q2 : evL wd nw call es env u1 with
    | bad =>
      rw [q2] at o
      exact o.elim
    | exc k u2 =>
      rw [q2] at o
      exact par_walk hB (hr.ext' po.ext hB) po.wd (by rw [q2]; exact o)
    | ok ds u2 =>
      rw [q2] at o
      obtain ⟨o1, o2⟩ := o
      rw [List.zip_cons_cons, List.all_cons, Bool.and_eq_true] at o1
      obtain ⟨F1, r1, k1, t1⟩ : ∃ F1, SRw (gx X f) C A0 B H0 F1 ow env σ H1 ∧ Keep (gx X f) C B H0 H1 F1 ow env (e.fresh && d.ownable) d v ∧ ∀ b d v, Keep (gx X f) C B H0 H F ow env b d v → Keep (gx X f) C B H0 H1 F1 ow env b d v := by
        have z := o1.1
        unfold chkP at z
        cases hok : (d.flat || (e.fresh && d.ownable)) with
        | true =>
          obtain ⟨r1, k1⟩ := hr.afterOk hB po hok
          exact ⟨_, r1, k1, fun b d v k => k.up po.ext⟩
        | false =>
          rw [Bool.or_eq_false_iff] at hok
          rw [hok.1, hok.2, Bool.false_or, Bool.false_or] at z
          obtain ⟨r1, k1⟩ := hr.afterU po z hok.2
          exact ⟨_, r1, k1, fun b d v k => k.upU po.ext⟩
      refine par_walk hB r1 po.wd (by
        rw [q2]
        refine ⟨o1.2, fun vs H' F' hr' w' ks nw' tr => ?_⟩
        have k2 := tr _ _ _ k1
        refine o2 (v :: vs) H' F' hr' w' ⟨d, ds, v, vs, rfl, rfl, k2, fun z1 z hz ev => ?_, ks⟩ (fun z hz p ez => ?_) fun b d v k => tr b d v (t1 b d v k)
        · obtain ⟨_, oo, p1, _, bx, rfl, hp, _⟩ := k1.2 z1
          exact (nw' z hz p1 ev.symm).mu bx.mu hp
        · rcases hz with ⟨z1, z2⟩ | hz
          · rw [Bool.and_eq_true] at z1
            exact po.fr z1.1 (ownable_of z1.2).1 p (z2.trans ez)
          · exact po.ext.free p (nw' z hz p ez))
def tParN (is : List Nat) (ta : TA) : TS := fun D σ H => ta σ H fun vs H1 => vs.length = is.length → vs.length ≤ sizeLine ∧ D.nx (setPs is vs σ) H1 ∧ ∀ p, H1 p = none → D.nx (setPs is vs σ) (upd H1 p (.tup vs))
theorem ps_par' (hB : ∀ a, B a → IsMu H0 a) {is : List Nat} {es : List Ex} {st : Stmt} (hl : is.length = es.length) (h16 : es.length ≤ 16) (hi : ∀ i ∈ is, i < X.N.length) (h : PS X st (tParN is (tCs (gx X f) C wd nw call W es))) : PS X st (tS (gx X f) C wd nw call A0 B H0 W (.par is es)) := by
  refine psImpL h fun D σ H len q => ?_
  obtain ⟨env, u, ⟨F, ow, hr⟩, w, o⟩ := q
  rw [evS] at o
  refine par_walk hB hr w ?_
  cases q1 : evL wd nw call es env u with
  | bad =>
    rw [q1] at o
    exact o
  | exc k u1 =>
    rw [q1] at o
    exact fun H' x w' => o σ H' x w'
  | ok ds u1 =>
    rw [q1] at o
    simp only at o
    split at o
    · rename_i hc
      refine ⟨hc, fun vs H' F' hr' w' ks _ _ _ => ?_⟩
      have fin : ∀ H'', Ext C H' H'' → Wd (gx X f) C H'' u1 → D.nx (setPs is vs σ) H'' := fun H'' x' w'' => by
        refine o _ _ (KeepL.set hl (fun i hm => by rw [len]; exact hi i hm) (hr'.ext' x' hB) ?_) w''
        have up : ∀ {es : List Ex} {ds : List Ev.D} {vs : List V}, KeepL (gx X f) C B H0 H' F' ow env es ds vs → KeepL (gx X f) C B H0 H'' (fun a => F' a ∧ ¬ NL H' a) ow env es ds vs := by
          intro es
          induction es with
          | nil => exact fun h => h
          | cons e es ih =>
            rintro ds vs ⟨d, r, v, w, e1, e2, k, m, ks⟩
            exact ⟨d, r, v, w, e1, e2, k.up x', m, ih ks⟩
        exact up ks
      have lv := ks.len
      refine ⟨?_, fin H' w'.refl w', fun p np => fin _ (w'.newX np) (w'.newW np)⟩
      rw [lv]
      have := big_le
      unfold big at this
      omega
    · exact o.elim
end
end Ev

/-! The look at statements; every statement keeps its reading. -/
namespace Ev
open PySem PySem.Spec PyProof.Rows L2 LamX

def swapNone (sc : Scope) (ts : List Expr) : Expr → Bool
  | .Tuple vs _ _ => !(decide (ts.length = 2) || decide (ts.length = 3)) || (ts.any fun t => match t with | .Name x _ => !locl sc x | _ => true) || vs.all (foldedForSure 8)
  | _ => true
def mNs (m : MC) : List Nat → List Expr → Bool
  | [], [] => true
  | i :: is, .Name x _ :: ts => decide (m.N[i]? = some x) && loccell m.sc x && mNs m is ts
  | _, _ => false
/-- one line, and a value that is no constant: then the names are stored without a tuple -/
def oneLine (sc : Scope) : List Expr → List Expr → Bool
  | [.Name x px, .Name y py], [a, b] => locl sc x && locl sc y && decide (py.line = px.line) && !decide (x = y) && !([a, b].all (foldedForSure 8)) && !([a, b].all (constantsAlone 8))
  | [.Name x px, .Name y py, .Name z pz], [a, b, c] => locl sc x && locl sc y && locl sc z && decide (py.line = px.line) && decide (pz.line = px.line) && !decide (x = y) && !decide (x = z) && !decide (y = z) && !([a, b, c].all (foldedForSure 8)) && !([a, b, c].all (constantsAlone 8))
  | _, _ => false
def mPar (p : PC) (m : MC) (is : List Nat) (es : List Ex) : Stmt → Bool
  | .Assign [.Tuple ts _ _] (.Tuple xs k pt) _ => mNs m is ts && decide is.Nodup && mL p m es xs && decide (is.length = es.length) && decide (es.length ≤ 16) && (oneLine m.sc ts xs || swapNone m.sc ts (.Tuple xs k pt)) && !m.hot
  | _ => false
def mSub (p : PC) (m : MC) (i : Nat) (k e : Ex) : Stmt → Bool
  | .Assign [.Subscript (.Name nm _) y _] x _ => decide (m.N[i]? = some nm) && vis m.sc nm && okN nm && (e.val && mE p m e x) && (k.val && mE p m k y) && noComp x && !m.hot
  | _ => false
def mApp (p : PC) (m : MC) (i : Nat) (e : Ex) : Stmt → Bool
  | .Expr (.Call (.Attribute (.Name nm _) attr apos) [x] [] cpos) _ => decide (m.N[i]? = some nm) && vis m.sc nm && okN nm && decide (attr = ("append" : Str)) && (e.val && mE p m e x) && (apos.endLine == cpos.line)
  | _ => false
def mRaise (p : PC) (m : MC) (k : Nat) : Stmt → Bool
  | .Raise (some (.Call (.Name x _) [.Constant (.str _) _ _] [] _)) none _ => decide (p.cn[k]? = some x) && p.rc.contains k && glb m.sc x && okN x && !m.hot
  | _ => false
def mPop (m : MC) (tg : Tg) (i : Nat) : Expr → Expr → Bool
  | t, .Call (.Attribute (.Name nm _) attr apos) [] [] cpos => mTc m tg t && decide (m.N[i]? = some nm) && vis m.sc nm && okN nm && decide (attr = ("pop" : Str)) && (apos.endLine == cpos.line)
  | _, _ => false
def mForP (p : PC) (m : MC) (k x i : Nat) : Expr → Bool
  | .Call (.Name f _) [.Subscript (.Name nx _) (.Call (.Attribute (.Name nm _) attr apos) [] [] cpos) _] [] _ => decide (p.fn[k]? = some f) && glb m.sc f && okN f && decide (m.N[x]? = some nx) && vis m.sc nx && okN nx && decide (m.N[i]? = some nm) && vis m.sc nm && okN nm && decide (attr = ("pop" : Str)) && (apos.endLine == cpos.line) && !decide (x = i)
  | _ => false
mutual
def mS (p : PC) (m : MC) : Sx → Stmt → Bool
  | .set i e, .Assign [.Name y _] x _ => decide (m.N[i]? = some y) && loccell m.sc y && (e.val && mE p m e x)
  | .asg ts e, .Assign [.Tuple es _ _] x _ => mTcs m ts es && (e.val && mE p m e x) && noComp x && swapNone m.sc es x
  | .par is es, st => mPar p m is es st
  | .sub i k e, st => mSub p m i k e st
  | .app i e, st => mApp p m i e st
  | .exp e, .Expr x _ => (e.val && mE p m e x) && noComp x
  | .ret e, .Return (some x) _ => e.val && mE p m e x
  | .ite c a b, .If x sa sb _ => (c.val && mE p m c x) && mSs p m a sa && mSs p m b sb
  | .for_ tg src body, .For tg' it' sts [] _ => mTc m tg tg' && mE p m src it' && (!src.isZip || isTup tg') && mSs p m body sts && !m.hot
  | .while_ c body, .While x sts [] _ => (c.val && mE p m c x) && mSs p m body sts && !m.hot
  | .pop tg i, .Assign [t] x _ => mPop m tg i t x
  | .forP tg k x i body, .For tg' it' sts [] _ => mTc m tg tg' && mForP p m k x i it' && mSs p m body sts && !m.hot
  | .raise k, st => mRaise p m k st
  | .pass, .Pass _ => true
  | _, _ => false
def mSs (p : PC) (m : MC) : List Sx → List Stmt → Bool
  | [], [] => true
  | s :: ss, t :: ts => mS p m s t && mSs p m ss ts
  | _, _ => false
end
section
variable {p : PC} {f : Fx} {wd : Words} {nw : Str} {pr : List FD} {n : Nat} {X : Cx} {m : MC}
/-- what a context must be for statements -/
structure SOk (p : PC) (f : Fx) (wd : Words) (nw : Str) (pr : List FD) (n : Nat) (X : Cx) (m : MC) : Prop where
  x : XOk p f wd nw pr n X m
  kind : m.sc.kind = .function
  loc : ∀ y, loccell m.sc y = true → Loc X.env.scope y ∧ (X.fn y = true ∨ X.env.scope.names.lookup y = some .local)
  ra : m.hot = false → ∀ k y, p.cn[k]? = some y → p.rc.contains k = true → ∃ (B newId initId : String) (bmB : List Value), ExcBaseFacts B newId initId bmB ∧ PySem.W.excIn X.K (f.ca k) bmB newId = true ∧ X.mg y = some (.ref (f.ca k)) ∧ PySem.W.keepIn X.K (.ref (f.ca k)) = true ∧ Raises X (.ref (f.ca k))
  po : m.hot = false → PassesOwn (model X.prog X.w) X.A X.env X.xe
theorem XOk.heat (h : XOk p f wd nw pr n X m) : X.calm = true ∨ L2H.HotC X := by
  cases hh : m.hot with
  | false => exact .inl (h.calm hh)
  | true => exact .inr (h.hot hh)
theorem filt_lt {α β : Type} {g : α → Option β} : ∀ {ts : List α}, (∃ t ∈ ts, g t = none) → (ts.filterMap g).length < ts.length
  | [], h => by obtain ⟨t, ht, _⟩ := h; cases ht
  | t :: ts, h => by
    have le := List.length_filterMap_le g ts
    cases e : g t with
    | none =>
      rw [List.filterMap_cons_none e, List.length_cons]
      omega
    | some b =>
      rw [List.filterMap_cons_some e, List.length_cons, List.length_cons]
      obtain ⟨t', ht, ht'⟩ := h
      rcases List.mem_cons.mp ht with rfl | hm
      · rw [e] at ht'; cases ht'
      · have := filt_lt (g := g) ⟨t', hm, ht'⟩
        omega
theorem bk_of {env : Env} (h : env.scope.kind = .function) : env.blockKind = .function := by
  unfold Env.blockKind
  rw [h]
  rfl
theorem sw_none {ts : List Expr} {v : Expr} {k : Nat} {tp : Pos} {env : Env} (h : swapNone env.scope ts v = true) (hk : env.scope.kind = .function) : swappedStores [.Tuple ts k tp] v env = pure none := by
  cases v with
  | Tuple vs k2 p2 =>
    unfold swapNone at h
    simp only [Bool.or_eq_true, Bool.not_eq_true', Bool.or_eq_false_iff, decide_eq_false_iff_not] at h
    unfold swappedStores
    simp only [bk_of hk]
    split
    · rfl
    · rename_i q1
      split
      · rfl
      · split
        · rfl
        · rename_i q2
          split
          · rfl
          · rename_i q3
            exfalso
            simp only [Bool.or_eq_true, Bool.not_eq_true', Bool.or_eq_false_iff, beq_eq_false_iff_ne, bne_iff_ne, ne_eq, not_or, not_and, Decidable.not_not] at q1 q2
            rcases h with (h | h) | h
            · exact h.2 (q1.1.1 h.1)
            · rw [List.any_eq_true] at h
              obtain ⟨t, ht, h⟩ := h
              have lt := filt_lt (g := fun x => match x with
                | Expr.Name id pos => if (env.kindOf id == some .local && pos.line == (ts.head?.map (·.pos.line)).getD 0) = true then some id else none
                | _ => none) ⟨t, ht, by
                  cases t <;> first | rfl | skip
                  rename_i x pos
                  simp only [Bool.not_eq_true'] at h
                  have : (env.kindOf x == some .local) = false := by
                    cases e : env.kindOf x with
                    | none => rfl
                    | some k =>
                      cases k <;> first | rfl | skip
                      exfalso
                      unfold locl at h
                      have e' : env.scope.names.lookup x = some .local := e
                      rw [e'] at h
                      cases h
                  simp only [this, Bool.false_and]
                  rfl⟩
              have q2' := q2.1
              exact absurd q2' (Nat.ne_of_lt lt)
            · exact absurd h q3
  | _ => rfl

theorem sw_par {x y : Str} {px py tp p2 : Pos} {a b : Expr} {k k2 : Nat} {env : Env} (hk : env.scope.kind = .function) (hx : env.scope.names.lookup x = some .local) (hy : env.scope.names.lookup y = some .local) (hl : py.line = px.line) (hn : x ≠ y)
    (ha : starless a = true) (hb : starless b = true) (h1 : ([a, b].all (foldedForSure 8)) = false) (h2 : ([a, b].all (constantsAlone 8)) = false) : swappedStores [.Tuple [.Name x px, .Name y py] k tp] (.Tuple [a, b] k2 p2) env = pure (some [x, y]) := by
  have kx : env.kindOf x = some .local := hx
  have ky : env.kindOf y = some .local := hy
  have hs : ([a, b].any fun | .Starred .. => true | _ => false) = false := by
    have e1 : ∀ {c : Expr}, starless c = true → (match c with | .Starred .. => true | _ => false) = false := fun {c} h => by
      cases c <;> first | rfl | cases h
    simp only [List.any_cons, List.any_nil, Bool.or_false, Bool.or_eq_false_iff]
    exact ⟨e1 ha, e1 hb⟩
  have nyx : ¬ (y = x) := fun e => hn e.symm
  unfold swappedStores
  simp only [bk_of hk]
  split
  · rename_i q
    cases q
  · split
    · rename_i q
      exact Bool.noConfusion (hs.symm.trans q)
    · split
      · rename_i q
        exfalso
        simp [kx, ky, hl, Expr.pos, List.eraseDups_cons, nyx] at q
      · split
        · rename_i q
          exact Bool.noConfusion (h1.symm.trans q)
        · split
          · rename_i q
            exact Bool.noConfusion (h2.symm.trans q)
          · simp [kx, ky, hl, Expr.pos]
theorem sw_par3 {x y z : Str} {px py pz tp p2 : Pos} {a b c : Expr} {k k2 : Nat} {env : Env} (hk : env.scope.kind = .function) (hx : env.scope.names.lookup x = some .local) (hy : env.scope.names.lookup y = some .local) (hz : env.scope.names.lookup z = some .local) (hl : py.line = px.line) (hl2 : pz.line = px.line) (hn : x ≠ y) (hn2 : x ≠ z) (hn3 : y ≠ z)
    (ha : starless a = true) (hb : starless b = true) (hc : starless c = true) (h1 : ([a, b, c].all (foldedForSure 8)) = false) (h2 : ([a, b, c].all (constantsAlone 8)) = false) : swappedStores [.Tuple [.Name x px, .Name y py, .Name z pz] k tp] (.Tuple [a, b, c] k2 p2) env = pure (some [x, y, z]) := by
  have kx : env.kindOf x = some .local := hx
  have ky : env.kindOf y = some .local := hy
  have kz : env.kindOf z = some .local := hz
  have hs : ([a, b, c].any fun | .Starred .. => true | _ => false) = false := by
    have e1 : ∀ {c : Expr}, starless c = true → (match c with | .Starred .. => true | _ => false) = false := fun {c} h => by
      cases c <;> first | rfl | cases h
    simp only [List.any_cons, List.any_nil, Bool.or_false, Bool.or_eq_false_iff]
    exact ⟨e1 ha, e1 hb, e1 hc⟩
  have nyx : ¬ (y = x) := fun e => hn e.symm
  have nzx : ¬ (z = x) := fun e => hn2 e.symm
  have nzy : ¬ (z = y) := fun e => hn3 e.symm
  unfold swappedStores
  simp only [bk_of hk]
  split
  · rename_i q
    cases q
  · split
    · rename_i q
      exact Bool.noConfusion (hs.symm.trans q)
    · split
      · rename_i q
        exfalso
        simp [kx, ky, kz, hl, hl2, Expr.pos, List.eraseDups_cons, nyx, nzx, nzy] at q
      · split
        · rename_i q
          exact Bool.noConfusion (h1.symm.trans q)
        · split
          · rename_i q
            exact Bool.noConfusion (h2.symm.trans q)
          · simp [kx, ky, kz, hl, hl2, Expr.pos]
theorem sw_false {elt : Expr} {gs : List Comprehension} {scope : Scope} {pos py : Pos} {y : Str} {l : Nat} {env : Env} (h : (locl env.scope y && py.line == pos.line && !(scope.names.any fun (n, k) => n == y && (k == .local || k == .cell))) = false) : swapsWith (.ListComp elt gs scope pos) (some (.Name y py)) l env = pure false := by
  have e : (env.kindOf y == some .local) = locl env.scope y := by
    unfold locl
    show ((env.scope.names.lookup y) == some .local) = _
    cases env.scope.names.lookup y with
    | none => rfl
    | some k => cases k <;> rfl
  unfold swapsWith
  simp only [e, Expr.pos]
  show pure (env.blockKind == _ && locl env.scope y && py.line == pos.line && !(scope.names.any fun (n, k) => n == y && (k == .local || k == .cell))) = pure false
  rw [Bool.and_assoc, Bool.and_assoc, ← Bool.and_assoc (locl env.scope y), h, Bool.and_false]
section
variable {A0 B : Addr → Prop} {H0 : Hp} {C : Addr} {W : WX}
def StOk (p : PC) (f : Fx) (wd : Words) (nw : Str) (pr : List FD) (n : Nat) (s : Sx) : Prop := ∀ (X : Cx) (m : MC) (C : Addr) (W : WX) (st : Stmt), SOk p f wd nw pr n X m → L2N.Takes X W → mS p m s st = true → ∀ (A0 B : Addr → Prop) (H0 : Hp), (∀ a, B a → IsMu H0 a) →
  PS X st (tS (gx X f) C wd nw (run wd nw pr n) A0 B H0 W s)
def StsOk (p : PC) (f : Fx) (wd : Words) (nw : Str) (pr : List FD) (n : Nat) (s : List Sx) : Prop := ∀ (X : Cx) (m : MC) (C : Addr) (W : WX) (st : List Stmt), SOk p f wd nw pr n X m → L2N.Takes X W → mSs p m s st = true → ∀ (A0 B : Addr → Prop) (H0 : Hp), (∀ a, B a → IsMu H0 a) →
  PSs X st (tSs (gx X f) C wd nw (run wd nw pr n) A0 B H0 W s)
theorem set_ok (h : SOk p f wd nw pr n X m) (tk : L2N.Takes X W) {i : Nat} {e : Ex} {y : Str} {py spos : Pos} {x : Expr} (hy : m.N[i]? = some y) (hl : loccell m.sc y = true) (hv : e.val = true) (he : mE p m e x = true) : PS X (.Assign [.Name y py] x spos) (tAsg (tE (gx X f) C wd nw (run wd nw pr n) W e) (gName i)) := by
  have base : PE X x (tE (gx X f) C wd nw (run wd nw pr n) W e) := (e_ok e X m C W x h.kind h.x tk hv he).1
  have fin : ∀ (hs : swapsWith x (some (.Name y py)) spos.line X.env = pure false), PS X (.Assign [.Name y py] x spos) (tAsg (tE (gx X f) C wd nw (run wd nw pr n) W e) (gName i)) := fun hs =>
    ps_set h.x.nd (by rw [h.x.N]; exact hy) (h.loc y hl).1 base hs (h.loc y hl).2
  by_cases hc : noComp x = true
  · exact fin (noSwap hc)
  · cases x <;> first | exact absurd rfl hc | skip
    · rename_i elt' gs scope pos
      cases hsw : locl X.env.scope y && py.line == pos.line && !(scope.names.any fun (n, k) => n == y && (k == .local || k == .cell)) with
      | false => exact fin (sw_false hsw)
      | true =>
        simp only [Bool.and_eq_true, Bool.not_eq_true'] at hsw
        obtain ⟨⟨w1, w2⟩, w3⟩ := hsw
        have hll : m.sc.names.lookup y = some .local := by
          rw [h.x.sc] at w1
          unfold locl at w1
          split at w1
          · assumption
          · cases w1
        cases e <;> first | (simp [mE] at he; done) | (cases hv; done) | skip
        rename_i own tg src ifs elt
        cases gs with
        | nil => cases he
        | cons g0 gs =>
        obtain ⟨tg', it', ifs', as⟩ := g0
        cases gs with
        | cons _ _ => simp [mE] at he
        | nil =>
        by_cases h0 : as = 0
        case neg => simp [mE, h0] at he
        subst h0
        simp only [mE, Bool.and_eq_true] at he
        obtain ⟨⟨⟨⟨⟨⟨⟨⟨⟨e1, e2⟩, e3⟩, e4⟩, e5⟩, e6⟩, e7⟩, e8⟩, e9, e10⟩, e11⟩ := he
        have hk := h.kind
        have hk' : (m.blk scope).sc.kind = .function := by
          have z := (blkOk_by e1).kind
          exact z
        cases hh : m.hot with
        | false =>
          exact ps_setLc' (C := C) (W := W) h.x hh hk hy hll w2 w3 (src_ok hk h.x tk (fun _ => e_ok src) (fun a ea => by subst ea; exact e_ok a) (fun a b ea => by subst ea; exact ⟨e_ok a, e_ok b⟩) (fun a ea => by subst ea; exact e_ok a) (fun a ea => by subst ea; exact e_ok a) (fun a b ea => by subst ea; exact ⟨e_ok a, e_ok b⟩) e5 e6) e1 (own_sub e2)
            (fun s H D cl fp => pg_ok (X := X.blk s H scope (compEnvC scope cl D X.env) fp) (f := f) (C := C) (m := ⟨m.N, scope, m.er, m.hot⟩) h.x.N h.x.nd (.inl (h.x.calm hh)) (fun y hy => loc_of h.x y hy) tg tg' e4)
            (fun s H D cl fp => pts_ok (l_ok ifs (X.blk s H scope (compEnvC scope cl D X.env) fp) (m.blk scope) C W0 ifs' hk' (h.x.blk hh hk) LamN.takes0 e7).2.2 (of_decide_eq_true e8))
            (fun s H D cl fp => (e_ok elt (X.blk s H scope (compEnvC scope cl D X.env) fp) (m.blk scope) C W0 elt' hk' (h.x.blk hh hk) LamN.takes0 e9 e10).1) (mE_starless e5)
        | true =>
          have hv2 : src.val = true := by simpa [hh] using e11
          exact ps_setLcH' (C := C) (W := W) h.x hh hk hy hll w2 w3 (pi_valH' (e_ok src X m C W it' hk h.x tk hv2 e5).1) e1 (own_sub e2)
            (fun p0 h0 s H D cl fp => pg_ok (X := EvHot.blkH X p0 s H scope (compEnvC scope cl D X.env) fp) (f := f) (C := C) (m := ⟨m.N, scope, m.er, m.hot⟩) h.x.N h.x.nd (.inr (EvHot.blkH_hot h0)) (fun y hy => loc_of h.x (s := s) (H := H) (cl := cl) (D := D) (fp := fp) y hy) tg tg' e4)
            (fun p0 h0 s H D cl fp => pts_ok (l_ok ifs (EvHot.blkH X p0 s H scope (compEnvC scope cl D X.env) fp) (m.blk scope) C W0 ifs' hk' (h.x.blkH hh h0 hk) LamN.takes0 e7).2.2 (of_decide_eq_true e8))
            (fun p0 h0 s H D cl fp => (e_ok elt (EvHot.blkH X p0 s H scope (compEnvC scope cl D X.env) fp) (m.blk scope) C W0 elt' hk' (h.x.blkH hh h0 hk) LamN.takes0 e9 e10).1) (mE_starless e5)
    · cases e <;> first | (simp [mE] at he; done) | (cases hv; done)
    · cases e <;> first | (simp [mE] at he; done) | (cases hv; done)
theorem tE_mono {e : Ex} {call : Nat → List D → Cup → Re D} {σ : L2.St} {H : Hp} {Q Q' : VK} (q : tE (gx X f) C wd nw call W e σ H Q) (k : ∀ v H', Q v H' → Q' v H') : tE (gx X f) C wd nw call W e σ H Q' := by
  obtain ⟨env, u, A, rel, w, o⟩ := q
  exact ⟨env, u, A, rel, w, o.imp fun d u1 o1 v H1 po => k v H1 (o1 v H1 po)⟩
theorem tCs_mono {call : Nat → List D → Cup → Re D} {σ : L2.St} : ∀ {es : List Ex} {H : Hp} {R R' : List V → Hp → Prop}, tCs (gx X f) C wd nw call W es σ H R → (∀ vs H', vs.length = es.length → R vs H' → R' vs H') → tCs (gx X f) C wd nw call W es σ H R'
  | [], H, R, R', q, k => k [] H rfl q
  | e :: es, H, R, R', q, k => tE_mono (Q' := fun v H1 => tCs (gx X f) C wd nw call W es σ H1 fun vs H2 => R' (v :: vs) H2) q fun v H1 q1 => tCs_mono q1 fun vs H2 hl q2 => k (v :: vs) H2 (by rw [List.length_cons, List.length_cons, hl]) q2
theorem pa_cs {call : Nat → List D → Cup → Re D} : ∀ {es : List Ex} {xs : List Expr}, Paired (fun e x => PE X x (tE (gx X f) C wd nw call W e)) es xs → (∀ y ∈ xs, starless y = true) → PA X xs (tCs (gx X f) C wd nw call W es)
  | _, _, .nil, _ => pa_nil
  | _, _, .cons h r, hs => pa_cons h (pa_cs r fun y hy => hs y (List.mem_cons_of_mem _ hy)) (star_of (hs _ List.mem_cons_self))
theorem mNs_lt (hN : X.N = m.N) : ∀ {is : List Nat} {ts : List Expr}, mNs m is ts = true → ∀ i ∈ is, i < X.N.length
  | [], _, _, i, hi => by cases hi
  | j :: is, ts, h, i, hi => by
    cases ts with
    | nil => cases h
    | cons t ts =>
      cases t <;> first | (cases h; done) | skip
      simp only [mNs, Bool.and_eq_true, decide_eq_true_eq] at h
      rcases List.mem_cons.mp hi with rfl | hi
      · rw [hN]
        exact (List.getElem?_eq_some_iff.mp h.1.1).1
      · exact mNs_lt hN h.2 i hi
theorem mNs_t : ∀ {is : List Nat} {ts : List Expr}, mNs m is ts = true → mTcs m (is.map Tg.n) ts = true
  | [], ts, h => by
    cases ts with
    | nil => rfl
    | cons _ _ => cases h
  | j :: is, ts, h => by
    cases ts with
    | nil => cases h
    | cons t ts =>
      cases t <;> first | (cases h; done) | skip
      simp only [mNs, Bool.and_eq_true, decide_eq_true_eq] at h
      simp only [List.map_cons, mTcs, mTc, Bool.and_eq_true, decide_eq_true_eq]
      exact ⟨⟨h.1.1, h.1.2⟩, mNs_t h.2⟩
theorem mNs_len : ∀ {is : List Nat} {ts : List Expr}, mNs m is ts = true → ts.length = is.length
  | [], ts, h => by
    cases ts with
    | nil => rfl
    | cons _ _ => cases h
  | j :: is, ts, h => by
    cases ts with
    | nil => cases h
    | cons t ts =>
      cases t <;> first | (cases h; done) | skip
      simp only [mNs, Bool.and_eq_true] at h
      rw [List.length_cons, List.length_cons, mNs_len h.2]
def gNs : List Nat → TGs
  | [] => gNil
  | i :: is => gCons (gName i) (gNs is)
theorem gNs_of {Q : L2.St → Hp → Prop} {H : Hp} : ∀ {is : List Nat} {vs : List V} {σ : L2.St}, vs.length = is.length → Q (setPs is vs σ) H → gNs is vs σ H Q
  | [], vs, σ, hl, q => by
    have e : vs = [] := List.length_eq_zero_iff.mp hl
    subst e
    exact ⟨rfl, q⟩
  | i :: is, [], σ, hl, q => by simp at hl
  | i :: is, v :: vs, σ, hl, q => ⟨v, vs, rfl, gNs_of (is := is) (by simpa using hl) q⟩
theorem pgs_ns (h : SOk p f wd nw pr n X m) : ∀ {is : List Nat} {ts : List Expr}, mNs m is ts = true → PGs X ts (gNs is)
  | [], ts, e => by
    cases ts with
    | nil => exact pgs_nil
    | cons _ _ => cases e
  | j :: is, ts, e => by
    cases ts with
    | nil => cases e
    | cons t ts =>
      have e0 := mNs_t e
      cases t <;> first | (cases e; done) | skip
      simp only [mNs, Bool.and_eq_true, decide_eq_true_eq] at e
      simp only [List.map_cons, mTcs, Bool.and_eq_true] at e0
      have lc := e0.1
      simp only [mTc, Bool.and_eq_true] at lc
      exact pgs_cons (pg_name h.x.nd (by rw [h.x.N]; exact e.1.1) (h.loc _ lc.2).1 (h.loc _ lc.2).2) (pgs_ns h e.2) (asg_map e0.1)
theorem par_ok (h : SOk p f wd nw pr n X m) (hh : m.hot = false) {call : Nat → List D → Cup → Re D} {is : List Nat} {es : List Ex} {ts xs : List Expr} {k1 k2 : Nat} {p1 p2 pos : Pos} (h1 : mNs m is ts = true) (h2 : is.Nodup) (h6 : (oneLine m.sc ts xs || swapNone m.sc ts (.Tuple xs k2 p2)) = true) (hl : is.length = es.length)
    (hp : Paired (fun e x => PE X x (tE (gx X f) C wd nw call W e)) es xs) (hs : ∀ y ∈ xs, starless y = true) : PS X (.Assign [.Tuple ts k1 p1] (.Tuple xs k2 p2) pos) (tParN is (tCs (gx X f) C wd nw call W es)) := by
  have hk : X.env.scope.kind = .function := by rw [h.x.sc]; exact h.kind
  have pa := pa_cs hp hs
  have loc : ∀ {x : Str}, locl m.sc x = true → X.env.scope.names.lookup x = some .local := fun {x} z => by
    rw [← h.x.sc] at z
    unfold locl at z
    split at z
    · assumption
    · cases z
  by_cases sw : swapNone m.sc ts (.Tuple xs k2 p2) = true
  · obtain ⟨a1, a2⟩ := mTc_as (X := X) (mNs_t h1)
    rw [← h.x.sc] at sw
    refine psImpL (ps_asg (pe_tup pa) (pg_tup (h.x.calm hh) (pgs_ns h h1) a1 a2) (noSwapS rfl) (sw_none sw hk) rfl) fun D σ H len q => ?_
    refine tCs_mono q fun vs H' hv hq => ?_
    obtain ⟨z1, z2, z3⟩ := hq (hv.trans hl.symm)
    exact ⟨z1, fun p np => ⟨p, vs, rfl, SqT.of upd_same, by rw [List.length_map, hl, hv], gNs_of (hv.trans hl.symm) (z3 p np)⟩⟩
  have h6 : oneLine m.sc ts xs = true := by
    rw [Bool.or_eq_true] at h6
    exact h6.resolve_right sw
  unfold oneLine at h6
  split at h6
  · rename_i x px y py a b
    match is, es, h1, h2, hl, hp, pa with
    | [i, j], [ea, eb], h1, h2, hl, hp, pa =>
      simp only [mNs, Bool.and_eq_true, decide_eq_true_eq] at h1
      simp only [Bool.and_eq_true, decide_eq_true_eq, Bool.not_eq_true', decide_eq_false_iff_not] at h6
      obtain ⟨⟨q1, _⟩, ⟨q3, _⟩, _⟩ := h1
      obtain ⟨⟨⟨⟨⟨q2, q4⟩, r1⟩, r2⟩, r3⟩, r4⟩ := h6
      refine psImpL (ps_par (h.x.calm hh) h.x.nd (by rw [h.x.N]; exact q1) (by rw [h.x.N]; exact q3) (by simpa using h2) (loc q2) (loc q4) pa (sw_par hk (loc q2) (loc q4) r1 r2 (hs _ (by simp)) (hs _ (by simp)) r3 r4)) fun D σ H len q => tCs_mono q fun vs H' hv hq => ?_
      match vs, hv with
      | [u, v], _ => exact ⟨u, v, rfl, (hq rfl).2.1⟩
    | [], _, h1, _, _, _, _ => cases h1
    | [_], _, h1, _, _, _, _ => simp [mNs] at h1
    | _ :: _ :: _ :: _, _, h1, _, _, _, _ => simp [mNs] at h1
    | [_, _], [], _, _, hl, _, _ => simp at hl
    | [_, _], [_], _, _, hl, _, _ => simp at hl
    | [_, _], _ :: _ :: _ :: _, _, _, hl, _, _ => simp at hl
  · rename_i x px y py z pz a b c
    match is, es, h1, h2, hl, hp, pa with
    | [i, j, l], [ea, eb, ec], h1, h2, hl, hp, pa =>
      simp only [mNs, Bool.and_eq_true, decide_eq_true_eq] at h1
      simp only [Bool.and_eq_true, decide_eq_true_eq, Bool.not_eq_true', decide_eq_false_iff_not] at h6
      obtain ⟨⟨q1, _⟩, ⟨q3, _⟩, ⟨q5, _⟩, _⟩ := h1
      obtain ⟨⟨⟨⟨⟨⟨⟨⟨⟨q2, q4⟩, q6⟩, r1⟩, r2⟩, r3⟩, r4⟩, r5⟩, r6⟩, r7⟩ := h6
      have nd : i ≠ j ∧ i ≠ l ∧ j ≠ l := by
        simp at h2
        exact ⟨h2.1.1, h2.1.2, h2.2⟩
      refine psImpL (ps_par3 (h.x.calm hh) h.x.nd (by rw [h.x.N]; exact q1) (by rw [h.x.N]; exact q3) (by rw [h.x.N]; exact q5) nd.1 nd.2.1 nd.2.2 (loc q2) (loc q4) (loc q6) pa (sw_par3 hk (loc q2) (loc q4) (loc q6) r1 r2 r3 r4 r5 (hs _ (by simp)) (hs _ (by simp)) (hs _ (by simp)) r6 r7)) fun D σ H len q => tCs_mono q fun vs H' hv hq => ?_
      match vs, hv with
      | [u, v, w], _ => exact ⟨u, v, w, rfl, (hq rfl).2.1⟩
    | [], _, h1, _, _, _, _ => cases h1
    | [_], _, h1, _, _, _, _ => simp [mNs] at h1
    | [_, _], _, h1, _, _, _, _ => simp [mNs] at h1
    | _ :: _ :: _ :: _ :: _, _, h1, _, _, _, _ => simp [mNs] at h1
    | [_, _, _], [], _, _, hl, _, _ => simp at hl
    | [_, _, _], [_], _, _, hl, _, _ => simp at hl
    | [_, _, _], [_, _], _, _, hl, _, _ => simp at hl
    | [_, _, _], _ :: _ :: _ :: _ :: _, _, _, hl, _, _ => simp at hl
  · cases h6
theorem locl_of {sc : Scope} {y : Str} (h : locl sc y = true) : sc.names.lookup y = some .local := by
  unfold locl at h
  split at h
  · assumption
  · cases h
theorem pe_pop (h : SOk p f wd nw pr n X m) {i : Nat} {nm : Str} {npos apos cpos : Pos} (hN : m.N[i]? = some nm) (hv : vis m.sc nm = true) (ho : okN nm = true) (hl : (apos.endLine == cpos.line) = true) : PE X (.Call (.Attribute (.Name nm npos) "pop" apos) [] [] cpos) (tBM0 X.K "list" rPop (tVar i)) :=
  pe_bm0 PySem.F.plainAttrs_list PySem.F.slot_list_pop PySem.F.type_list_pop mt_pop (pe_var (by rw [h.x.N]; exact hN) (h.x.vis hv) (okN_of ho).1 (okN_of ho).2.1) rfl hl
mutual
theorem s_ok : ∀ s : Sx, StOk p f wd nw pr n s
  | .set i e => fun X m C W st h tk hm A0 B H0 hB => by
    cases st <;> first | (cases hm; done) | skip
    rename_i tgs x pos
    cases tgs with
    | nil => cases hm
    | cons t tgs =>
    cases tgs with
    | cons _ _ => cases t <;> cases hm
    | nil =>
    cases t <;> first | (cases hm; done) | skip
    simp only [mS, Bool.and_eq_true, decide_eq_true_eq] at hm
    obtain ⟨⟨h1, h2⟩, h3, h4⟩ := hm
    exact ps_set' hB (by rw [h.x.N]; exact (List.getElem?_eq_some_iff.mp h1).1) (set_ok h tk h1 h2 h3 h4)
  | .asg ts e => fun X m C W st h tk hm A0 B H0 hB => by
    cases st <;> first | (cases hm; done) | skip
    rename_i tgs x pos
    cases tgs with
    | nil => cases hm
    | cons t tgs =>
    cases tgs with
    | cons _ _ => cases t <;> cases hm
    | nil =>
    cases t <;> first | (cases hm; done) | skip
    simp only [mS, Bool.and_eq_true] at hm
    obtain ⟨⟨⟨h1, h2, h3⟩, h4⟩, h5⟩ := hm
    have hk : X.env.scope.kind = .function := by rw [h.x.sc]; exact h.kind
    exact ps_asg' hB (ps_asg (e_ok e X m C W x h.kind h.x tk h2 h3).1 (pg_ok (m := m) h.x.N h.x.nd h.x.heat h.loc (.t ts) (.Tuple _ _ _) h1) (noSwapS h4) (sw_none (by rw [h.x.sc]; exact h5) hk))
  | .par is es => fun X m C W st h tk hm A0 B H0 hB => by
    unfold mS at hm
    unfold mPar at hm
    split at hm
    · simp only [Bool.and_eq_true, decide_eq_true_eq, Bool.not_eq_true'] at hm
      obtain ⟨⟨⟨⟨⟨⟨h1, h2⟩, h3⟩, h4⟩, h5⟩, h6⟩, hh⟩ := hm
      exact ps_par' hB h4 h5 (mNs_lt h.x.N h1) (par_ok h hh h1 h2 h6 h4 (l_ok es X m C W _ h.kind h.x tk h3).2.1 (mL_starless h3))
    · cases hm
  | .sub i k e => fun X m C W st h tk hm A0 B H0 hB => by
    unfold mS at hm
    unfold mSub at hm
    split at hm
    · simp only [Bool.and_eq_true, decide_eq_true_eq, Bool.not_eq_true'] at hm
      obtain ⟨⟨⟨⟨⟨⟨h1, h2⟩, h3⟩, h4, h5⟩, h6, h7⟩, h8⟩, hh⟩ := hm
      exact ps_sub' hB (by have := (h.x.room hh).units; omega) (by rw [h.x.N]; exact h1) (h.x.vis h2) h3 (e_ok e X m C W _ h.kind h.x tk h4 h5).1 (e_ok k X m C W _ h.kind h.x tk h6 h7).1 h8 (mE_starless h7)
    · cases hm
  | .app i e => fun X m C W st h tk hm A0 B H0 hB => by
    unfold mS at hm
    unfold mApp at hm
    split at hm
    · simp only [Bool.and_eq_true, decide_eq_true_eq] at hm
      obtain ⟨⟨⟨⟨⟨h1, h2⟩, h3⟩, h4⟩, h5, h6⟩, h7⟩ := hm
      subst h4
      exact ps_app' hB (by rw [h.x.N]; exact h1) (h.x.vis h2) h3 (e_ok e X m C W _ h.kind h.x tk h5 h6).1 (mE_starless h6) h7
    · cases hm
  | .exp e => fun X m C W st h tk hm A0 B H0 hB => by
    cases st <;> first | (cases hm; done) | skip
    simp only [mS, Bool.and_eq_true] at hm
    exact ps_exp' hB (e_ok e X m C W _ h.kind h.x tk hm.1.1 hm.1.2).1 hm.2
  | .ret e => fun X m C W st h tk hm A0 B H0 hB => by
    cases st <;> first | (cases hm; done) | skip
    rename_i o pos
    cases o with
    | none => cases hm
    | some x =>
    simp only [mS, Bool.and_eq_true] at hm
    exact ps_ret' hB (e_ok e X m C W _ h.kind h.x tk hm.1 hm.2).1
  | .ite c a b => fun X m C W st h tk hm A0 B H0 hB => by
    cases st <;> first | (cases hm; done) | skip
    simp only [mS, Bool.and_eq_true] at hm
    obtain ⟨⟨⟨h1, h2⟩, h3⟩, h4⟩ := hm
    exact ps_ite' hB (e_ok c X m C W _ h.kind h.x tk h1 h2).2 (ss_ok a X m C W _ h tk h3 A0 B H0 hB) (ss_ok b X m C W _ h tk h4 A0 B H0 hB)
  | .for_ tg src body => fun X m C W st h tk hm A0 B H0 hB => by
    cases st <;> first | (cases hm; done) | skip
    rename_i tg' it' sts els pos
    cases els with
    | cons _ _ => cases hm
    | nil =>
    simp only [mS, Bool.and_eq_true, Bool.not_eq_true'] at hm
    obtain ⟨⟨⟨⟨h1, h2⟩, h3⟩, h4⟩, hh⟩ := hm
    exact ps_for' (h.po hh) (h.x.calm hh) hB (srcj_ok h.kind h.x tk (fun _ => e_ok src) (fun a ea => by subst ea; exact e_ok a) (fun a b ea => by subst ea; exact ⟨e_ok a, e_ok b⟩) (fun a ea => by subst ea; exact e_ok a) (fun a ea => by subst ea; exact e_ok a) (fun a b ea => by subst ea; exact ⟨e_ok a, e_ok b⟩) h2 h3) (pg_ok (m := m) h.x.N h.x.nd h.x.heat h.loc tg tg' h1)
      (fun A1 B1 H1 hB1 => ss_ok body X m C W _ h tk h4 A1 B1 H1 hB1) (mE_starless h2)
  | .while_ c body => fun X m C W st h tk hm A0 B H0 hB => by
    cases st <;> first | (cases hm; done) | skip
    rename_i x sts els pos
    cases els with
    | cons _ _ => cases hm
    | nil =>
    simp only [mS, Bool.and_eq_true, Bool.not_eq_true'] at hm
    obtain ⟨⟨⟨h1, h2⟩, h3⟩, hh⟩ := hm
    exact ps_while' (h.po hh) hB (e_ok c X m C W _ h.kind h.x tk h1 h2).2 (ss_ok body X m C W _ h tk h3 A0 B H0 hB)
  | .pop tg i => fun X m C W st h tk hm A0 B H0 hB => by
    cases st <;> first | (cases hm; done) | skip
    rename_i tgs x pos
    cases tgs with
    | nil => cases hm
    | cons t tgs =>
    cases tgs with
    | cons _ _ => cases hm
    | nil =>
    have hm : mPop m tg i t x = true := hm
    unfold mPop at hm
    split at hm
    · rename_i nm np attr apos cpos
      simp only [Bool.and_eq_true, decide_eq_true_eq] at hm
      obtain ⟨⟨⟨⟨⟨h1, h2⟩, h3⟩, h4⟩, h5⟩, h6⟩ := hm
      subst h5
      have pg := pg_ok (C := C) (f := f) (m := m) h.x.N h.x.nd h.x.heat h.loc tg t h1
      have hk : X.env.scope.kind = .function := by rw [h.x.sc]; exact h.kind
      refine ps_pop' ?_
      cases t <;> first | (cases tg <;> simp [mTc] at h1; done) | skip
      · exact ps_asg (pe_pop h h2 h3 h4 h6) pg (noSwapS rfl) rfl rfl
      · exact ps_asg (pe_pop h h2 h3 h4 h6) pg (noSwapS rfl) (sw_none rfl hk) rfl
    · cases hm
  | .forP tg k x i body => fun X m C W st h tk hm A0 B H0 hB => by
    cases st <;> first | (cases hm; done) | skip
    rename_i tg' it' sts els pos
    cases els with
    | cons _ _ => cases hm
    | nil =>
    simp only [mS, Bool.and_eq_true, Bool.not_eq_true'] at hm
    obtain ⟨⟨⟨h1, h2⟩, h3⟩, hh⟩ := hm
    unfold mForP at h2
    split at h2
    · rename_i y yp nx np nm mp attr apos cpos p1 p2
      simp only [Bool.and_eq_true, decide_eq_true_eq, Bool.not_eq_true', decide_eq_false_iff_not] at h2
      obtain ⟨⟨⟨⟨⟨⟨⟨⟨⟨⟨⟨a1, a2⟩, a3⟩, a4⟩, a5⟩, a6⟩, a7⟩, a8⟩, a9⟩, a10⟩, a11⟩, a12⟩ := h2
      subst a10
      obtain ⟨q1, q2, fd, ps, q3, F⟩ := h.x.fn k y a1
      have hx : PE X (.Name nx np) (tVar x) := pe_var (by rw [h.x.N]; exact a4) (h.x.vis a5) (okN_of a6).1 (okN_of a6).2.1
      have hix : PE X (.Subscript (.Name nx np) (.Call (.Attribute (.Name nm mp) "pop" apos) [] [] cpos) p1) (tPopIx X.K x i) := pe_ix ix_seq hx (pe_pop h a7 a8 a9 a11) (plainIx_of rfl)
      exact ps_forP' (h.po hh) (h.x.calm hh) hB a12 (pe_callS F (h.x.room hh) (h.x.glb a2) q1 q2 q3 (fun σ => L2N.passAt tk σ) (pa_cons hix pa_nil) (okN_of a3).1) (pg_ok (m := m) h.x.N h.x.nd h.x.heat h.loc tg tg' h1)
        (fun A1 B1 H1 hB1 => ss_ok body X m C W _ h tk h3 A1 B1 H1 hB1) rfl
    · cases h2
  | .raise k => fun X m C W st h tk hm A0 B H0 hB => by
    unfold mS at hm
    unfold mRaise at hm
    split at hm
    · simp only [Bool.and_eq_true, decide_eq_true_eq, Bool.not_eq_true'] at hm
      obtain ⟨⟨⟨⟨h1, hr⟩, h2⟩, h3⟩, hh⟩ := hm
      obtain ⟨B', newId, initId, bmB, F, q, gC, kC, r⟩ := h.ra hh k _ h1 hr
      exact ps_raise' hB (psImpL (L2N.ps_raise (h.x.calm hh) tk (L2N.pmk_own F q gC kC r (h.x.glb h2) (okN_of h3).1)) fun D σ H _ q => q)
    · cases hm
  | .pass => fun X m C W st h tk hm A0 B H0 hB => by
    cases st <;> first | (cases hm; done) | skip
    exact ps_pass' hB
theorem ss_ok : ∀ ss : List Sx, StsOk p f wd nw pr n ss
  | [] => fun X m C W st h tk hm A0 B H0 hB => by
    cases st with
    | cons _ _ => cases hm
    | nil => exact pss_nil' hB
  | s :: ss => fun X m C W st h tk hm A0 B H0 hB => by
    cases st with
    | nil => cases hm
    | cons t st =>
    simp only [mSs, Bool.and_eq_true] at hm
    exact pss_cons' hB (s_ok s X m C W t h tk hm.1 A0 B H0 hB) (ss_ok ss X m C W st h tk hm.2 A0 B H0 hB)
end
end
end
end Ev

/-! Every def keeps its promise. -/
namespace Ev
open PySem PySem.Spec PyProof.Rows L2 LamX
/-- the program: what stands in K, what the names say -/
structure Sys where
  P : Program
  w : World
  K : PySem.W.Frag
  mg : Str → Option Value
  base : Heap
abbrev Sys.g (S : Sys) (f : Fx) : G := ⟨S.K, S.mg, f.fa, f.ca, f.T, f.kn, f.xa, f.xk⟩
structure Sys.Is (S : Sys) (X : Cx) : Prop where
  P : X.prog = S.P
  w : X.w = S.w
  K : X.K = S.K
  mg : X.mg = S.mg
  base : X.base = S.base
/-- the def that gives an error its word -/
def ErS (S : Sys) (p : PC) (f : Fx) (wd : Words) (nw : Str) : Prop :=
  ∃ (ge : Addr) (pg : Arguments) (bg : List Stmt) (sg : Scope) (dV kV doc pm cdv ct oc : Value) (an od : Option Addr) (osl : Array (Option Value)) (Ng : List Str) (a : Str),
    S.mg p.er = some (.ref ge) ∧ PySem.W.keepIn S.K (.ref ge) = true ∧ S.K.lookup ge = some ⟨oc, od, .func (PySem.W.fnOf p.er p.er pg bg sg dV kV doc pm an cdv ct), osl⟩ ∧ PySem.W.codeIn S.K cdv p.er = true ∧ L2.Binds S.K (PySem.W.fnOf p.er p.er pg bg sg dV kV doc pm an cdv ct) [a] [] ∧
    FnScope Ng [a] sg ∧ Ng[0]? = some a ∧ Vis sg a ∧ (a == ("__debug__" : Str)) = false ∧ (a == ("__classdict__" : Str)) = false ∧ (∀ X, S.Is X → ∀ C q, LamN.GivesTo X Ng p.er sg ge cdv bg a q (TTe (gx X f) C wd nw))
/-- a def's own table of code objects -/
def ErD (S : Sys) (f : Fx) (qual : Str) (cdv : Value) : Prop := ∃ c Pt, TabB S.base S.mg c Pt ∧ cdv = .ref c ∧ (Pt, qual ++ "<lambda>") ∈ f.T ∧ ∀ q ∈ f.T, q.1 = Pt → q.2 = qual ++ "<lambda>"
/-- a def stands in K and says what fd says -/
def DefOk (S : Sys) (p : PC) (f : Fx) (k : Nat) (fd : FD) : Prop :=
  ∃ (x qual : Str) (pa : Arguments) (bd : List Stmt) (sc : Scope) (dV kV doc pm cdv ct oc : Value) (an od : Option Addr) (osl : Array (Option Value)) (N ps : List Str) (er : Bool),
    p.fn[k]? = some x ∧ S.K.lookup (f.fa k) = some ⟨oc, od, .func (PySem.W.fnOf x qual pa bd sc dV kV doc pm an cdv ct), osl⟩ ∧ PySem.W.codeIn S.K cdv qual = true ∧ FnScope N ps sc ∧ N.length = fd.nn ∧ ps.length = fd.np ∧
    L2.Binds S.K (PySem.W.fnOf x qual pa bd sc dV kV doc pm an cdv ct) ps [] ∧ mSs p ⟨N, sc, er, false⟩ fd.body bd = true ∧ (er = true → ErD S f (qual ++ ".<locals>.") cdv)
/-- what is known of the program -/
structure SysOk (S : Sys) (p : PC) (f : Fx) (wd : Words) (nw : Str) (pr : List FD) : Prop where
  at_ : ∀ k x, p.fn[k]? = some x → S.mg x = some (.ref (f.fa k)) ∧ PySem.W.keepIn S.K (.ref (f.fa k)) = true
  has : ∀ k x, p.fn[k]? = some x → ∃ fd, pr[k]? = some fd ∧ DefOk S p f k fd
  kn : ∀ k, f.kn k ↔ ∃ x, p.fn[k]? = some x
  bt : ∀ x ∈ p.bt, S.mg x = none
  gcd : S.mg "gcd" = some (.builtin "math.gcd")
  er : ErS S p f wd nw
  gc : ∀ q ∈ p.gc, ∃ u v, S.mg q.1 = some u ∧ RelV v u ∧ ∀ C H A, Rp (S.g f) C H A q.2 v
  kd : ∀ q ∈ p.kd, ∃ a, S.mg q.1 = some (.ref a) ∧ KTab S.K S.w a q.2
  ra : ∀ k y, p.cn[k]? = some y → p.rc.contains k = true → ∃ (B newId initId : String) (bmB : List Value), ExcBaseFacts B newId initId bmB ∧ PySem.W.excIn S.K (f.ca k) bmB newId = true ∧ S.mg y = some (.ref (f.ca k)) ∧ PySem.W.keepIn S.K (.ref (f.ca k)) = true ∧ PySem.W.subIn S.K (.ref (f.ca k)) (.type "BaseException") = some true ∧ PySem.W.typeIn S.K (.ref (f.ca k)) = some (.type "type")
section
variable {S : Sys} {p : PC} {f : Fx} {wd : Words} {nw : Str} {pr : List FD} {n : Nat} {C : Addr}
theorem SysOk.erok (h : SysOk S p f wd nw pr) {X : Cx} (is : S.Is X) {qual : Str} {cdv : Value} (hq : X.env.qual = qual) (hc : X.env.code = cdv) (he : ErD S f qual cdv) (hr : Room (3 * n + 2) X.A) : ErOk p f wd nw n X := by
  obtain ⟨ge, pg, bg, sg, dV, kV, doc, pm, cdg, ct, oc, an, od, osl, Ng, a, h1, h2, h3, h4, h5, h6, h7, h8, h9, h10, h11⟩ := h.er
  obtain ⟨c, Pt, t1, t2, t3, t4⟩ := he
  subst hq
  refine ⟨ge, c, Pt, pg, bg, sg, dV, kV, doc, pm, cdg, ct, oc, an, od, osl, Ng, a, ?_, ?_, ?_, ?_, ?_, h6, h7, h8, h9, h10, fun C => h11 X is C _, ?_, hc.trans t2, t3, t4, hr⟩
  · rw [is.mg]; exact h1
  · rw [is.K]; exact h2
  · rw [is.K]; exact h3
  · rw [is.K]; exact h4
  · rw [is.K]; exact h5
  · rw [is.mg, is.base]; exact t1
/-- the context of a def's body -/
theorem SysOk.sok (h : SysOk S p f wd nw pr) (ih : ∀ k x, p.fn[k]? = some x → ∃ fd ps, Binds S.K fd ps [] ∧ FnOk S.P S.w S.K S.mg S.base (L2N.CX S.P S.w) (3 * n) (f.fa k) fd ps (SpF (S.g f) (run wd nw pr n k)))
    {N ps : List Str} {qual : Str} {sc : Scope} {er : Bool} {fo : Addr} {cdv : Value} {A : Around} {outer : List Env} {s : Shared} {H : Hp} {E : XK} (hs : FnScope N ps sc) (hr : Room (3 * n + 2) (A.deeper (envOfC qual sc s.heap.objs.size fo cdv))) (he : er = true → ErD S f (qual ++ ".<locals>.") cdv) :
    SOk p f wd nw pr n (cxOf (L2N.CX S.P S.w) S.P S.w S.K S.mg S.base N qual sc fo cdv A outer s H E) ⟨N, sc, er, false⟩ where
  x := {
    N := rfl
    nd := hs.nd
    sc := rfl
    calm := fun _ => rfl
    room := fun _ => hr.mono (by omega)
    hot := fun z => by cases z
    fn := fun k x hk => ⟨(h.at_ k x hk).1, (h.at_ k x hk).2, ih k x hk⟩
    kn := h.kn
    bt := h.bt
    gcd := h.gcd
    isx := fun z => by cases z
    gc := h.gc
    kd := h.kd
    er := fun z _ => h.erok (n := n) (X := cxOf (L2N.CX S.P S.w) S.P S.w S.K S.mg S.base N qual sc fo cdv A outer s H E) (qual := qual ++ ".<locals>.") (cdv := cdv) ⟨rfl, rfl, rfl, rfl, rfl⟩ rfl rfl (he (id z)) hr }
  kind := hs.kind
  loc := fun y hy => by
    refine ⟨?_, .inl rfl⟩
    have hy : loccell sc y = true := hy
    unfold loccell at hy
    split at hy
    · exact .inl (by assumption)
    · exact .inr (by assumption)
    · cases hy
  ra := fun _ k y hk hr => by
    obtain ⟨B, n1, n2, bm, q1, q2, q3, q4, q5, q6⟩ := h.ra k y hk hr
    exact ⟨B, n1, n2, bm, q1, q2, q3, q4, raises_own q5 q6⟩
  po := fun _ => passes_of rfl
theorem start_at {ds : List D} {nn i : Nat} {b : Bool} {d : D} (e : (start ds nn)[i]? = some (some (b, d))) : b = false ∧ ds[i]? = some d := by
  unfold Ev.start at e
  by_cases hi : i < ds.length
  · rw [List.getElem?_append_left (by simpa using hi), List.getElem?_map] at e
    cases q : ds[i]? with
    | none => rw [q] at e; cases e
    | some x => rw [q] at e; cases e; exact ⟨rfl, rfl⟩
  · rw [List.getElem?_append_right (by simpa using hi), List.getElem?_replicate] at e
    split at e <;> cases e
theorem sr_start {g : G} {H : Hp} {A : Addr → Prop} {N : List Str} {ds : List D} {vs : List V} {u : Cup} {nn : Nat} (r : Rps g C H A ds vs) : SRel g C A (fun _ => False) H (start ds nn) (L2.start N vs) H := by
  refine ⟨A, fun _ => 0, ⟨fun _ _ k _ _ _ => k, fun _ k => k⟩, fun a ha => .inl ha, fun i d e => ?_, fun i d e => ?_, fun i j d d' e _ _ => ?_⟩
  · obtain ⟨v, h1, h2⟩ := r.get (start_at e).2
    refine ⟨v, ?_, h2⟩
    have hi : i < vs.length := (List.getElem?_eq_some_iff.mp h1).1
    unfold L2.start
    rw [List.getElem?_append_left (by simpa using hi), List.getElem?_map, h1]
    rfl
  · have := (start_at e).1
    cases this
  · have := (start_at e).1
    cases this
theorem ext_of {g : G} {H H' : Hp} {u u' : Cup} (w : Wd g C H u) (w' : Wd g C H' u') (x : ExtB C (fun _ => False) H H') : Ext C H H' := ⟨⟨_, w.cup⟩, ⟨_, w'.cup⟩, fun b o h n m => x.keep b o h n (fun z => z) m⟩
theorem defs_ok (h : SysOk S p f wd nw pr) : ∀ n k x, p.fn[k]? = some x → ∃ fd ps, Binds S.K fd ps [] ∧ FnOk S.P S.w S.K S.mg S.base (L2N.CX S.P S.w) (3 * n) (f.fa k) fd ps (SpF (S.g f) (run wd nw pr n k))
  | 0, k, x, hk => by
    obtain ⟨fd, e, x', qual, pa, bd, sc, dV, kV, doc, pm, cdv, ct, oc, an, od, osl, N, ps, er, h1, h2, h3, h4, h5, h6, h7, h8, h9⟩ := h.has k x hk
    refine ⟨_, ps, h7, fun vs H Q E q => ?_, fun A outer s H args us vs Q E _ _ _ _ q => ?_⟩
    · obtain ⟨C, A, ds, u, _, _, o⟩ := q
      exact (show False from o).elim
    · obtain ⟨C, A, ds, u, _, _, o⟩ := q
      exact (show False from o).elim
  | n + 1, k, x, hk => by
    obtain ⟨fd, e, x', qual, pa, bd, sc, dV, kV, doc, pm, cdv, ct, oc, an, od, osl, N, ps, er, h1, h2, h3, h4, h5, h6, h7, h8, h9⟩ := h.has k x hk
    refine ⟨_, ps, h7, fn_of (k := 3 * n + 2) h2 h3 h4 (fun vs H Q E q => ?_) fun A outer s H vs Q E hr q => ?_⟩
    · obtain ⟨C, A, ds, u, r, _, o⟩ := q
      simp only [run, e] at o
      split at o
      · rename_i hl
        rw [← r.length, hl, h6]
      · exact (show False from o).elim
    · obtain ⟨C, A0, ds, u, r, w, o⟩ := q
      simp only [run, e] at o
      split at o
      case isFalse => exact (show False from o).elim
      case isTrue hl =>
      let W : WX := fun cls d _ H => E cls d H
      have so := h.sok (n := n) (defs_ok h n) (E := E) (outer := outer) (s := s) (H := H) h4 hr h9
      refine ⟨_, ss_ok fd.body _ _ C W bd so (L2N.takes_of rfl rfl rfl rfl) h8 A0 (fun _ => False) H (fun _ z => z.elim), start ds fd.nn, u, sr_start (u := u) r, w, ?_⟩
      show SOut _ C A0 _ H W _ (evSs wd nw (run wd nw pr n) fd.body (start ds fd.nn) u)
      cases eS : evSs wd nw (run wd nw pr n) fd.body (start ds fd.nn) u with
      | next env1 u1 =>
        rw [eS] at o
        intro σ' H' hr' w'
        obtain ⟨F, ow, hr'⟩ := hr'
        exact o .non H' (ext_of w w' hr'.ext) w' rfl
      | ret d u1 =>
        rw [eS] at o
        intro v H' x' w' rv
        exact o v H' (ext_of w w' x') w' (rv.mono fun a ha => ha.elim .inl fun z => z.elim (fun z => z.elim) .inr)
      | exc j u1 =>
        rw [eS] at o
        intro σ' H' x' w'
        exact o H' (ext_of w w' x') w'
      | bad =>
        rw [eS] at o
        exact o
end
end Ev

/-! The def that gives an error its word. -/
namespace Ev
open PySem PySem.Spec PyProof.Rows L2 LamX
def exEnv (nn i k : Nat) : En := (List.replicate nn none).set i (some (false, .exc k))
theorem exEnv_at {nn i k j : Nat} {b : Bool} {d : D} (e : (exEnv nn i k)[j]? = some (some (b, d))) : j = i ∧ b = false ∧ d = .exc k := by
  unfold exEnv at e
  by_cases h : i = j
  · subst h
    by_cases hl : i < (List.replicate nn (none : Sl)).length
    · rw [List.getElem?_set_self hl] at e
      cases e
      exact ⟨rfl, rfl, rfl⟩
    · rw [List.getElem?_eq_none (by rw [List.length_set]; omega)] at e
      cases e
  · rw [List.getElem?_set_ne h, List.getElem?_replicate] at e
    split at e <;> cases e
def PC.bare (p : PC) : PC := ⟨[], p.cn, p.bt, [], [], p.er, p.sb, []⟩
def Fx.at (f : Fx) (a : Addr) (k : Nat) : Fx := ⟨f.fa, f.ca, f.T, fun _ => False, a, k⟩
abbrev nocall : Nat → List D → Cup → Re D := fun _ _ _ => .bad
/-- what is known of the handler's classes -/
structure HdOk (S : Sys) (p : PC) (f : Fx) (wd : Words) (nw : Str) (CS : Addr) (nn i : Nat) (suite : List Sx) : Prop where
  cls : ∀ k x, wd k = some x → PySem.W.exmOne S.K (.ref (f.ca k)) (.ref CS) = some true ∧ ExcC S.K (f.ca k) ∧ ∀ j b, p.sb k j = some b → PySem.W.kitOne S.K (.ref (f.ca k)) (.ref (f.ca j)) = some b
  ev : ∀ k x, wd k = some x → ∀ u, evSs wd nw nocall suite (exEnv nn i k) u = .ret (.str x) u
  bt : ∀ x ∈ p.bt, S.mg x = none
  gcd : S.mg "gcd" = some (.builtin "math.gcd")
  cn : ∀ k x, p.cn[k]? = some x → S.mg x = some (.ref (f.ca k))
theorem evS_wd {p : PC} {wd : Words} {nw : Str} {n : Nat} : run wd nw [] n = nocall := by
  funext k ds u
  cases n with
  | zero => rfl
  | succ n => simp [run]
section
variable {S : Sys} {p : PC} {f : Fx} {wd : Words} {nw : Str} {C : Addr}
theorem gives_ok {CS ge : Addr} {Ng : List Str} {i : Nat} {cdv : Value} {sg : Scope} {a x e : Str} {suiteS : List Sx} {b₀ : Stmt} {suite : List Stmt} {j : Nat} {p1 p2 p3 p4 p5 p6 p7 p8 : Pos} (h : HdOk S p f wd nw CS Ng.length i suiteS) (hx : S.mg x = some (.ref CS)) (hgl : sg.names.lookup x = some .globalImplicit) (hdx : (x == ("__debug__" : Str)) = false)
    (hFS : FnScope Ng [a] sg) (hi : Ng[i]? = some e) (hle : sg.names.lookup e = some .local) (hm : mSs p.bare ⟨Ng, sg, true, true⟩ suiteS (b₀ :: suite) = true) :
    ∀ X, S.Is X → ∀ C q, LamN.GivesTo X Ng p.er sg ge cdv [.Try [.Expr (.Call (.Name a p1) [] [] p2) p3] [.ExceptHandler (some (.Name x p4)) (some e) (b₀ :: suite) p5] [] [] p6, .Return (some (.Constant (.str nw) j p7)) p8] a q (TTe (gx X f) C wd nw) := by
  intro X is C q fa' c' s H Q tl act hc' htt
  have hNg0 : 0 < Ng.length := by
    have := hFS.pre
    cases Ng with
    | nil => simp at this
    | cons _ _ => simp
  let XX := (cxOf C8.CX0 X.prog X.w X.K X.mg X.base Ng p.er sg ge cdv X.A X.stack s H C8.E0).nox
  have hnames : Names XX x (.ref CS) := ⟨hgl, hdx, .inl (by rw [← hx, ← is.mg]; rfl)⟩
  have hit : i < Ng.length := (List.getElem?_eq_some_iff.mp hi).1
  let tb : WX → TS := fun W D σ H => ∃ Ech : XK, (∀ cls d (σ' : L2.St) H', σ'.length = Ng.length → Ech cls d H' → W cls d σ' H') ∧ σ[0]? = some (some (.ref fa')) ∧ H c' = some (CodeO c' q) ∧ tl Ech H (fun _ H' => D.nx σ H')
  let ts : Addr → Value → Option Addr → TS := fun ad cls d D σ H => ∃ k, cls = .ref (f.ca k) ∧ d = none ∧ (∃ x, wd k = some x) ∧ tSs (gx XX (f.at ad k)) C wd nw nocall (fun _ => False) (fun _ => False) H W0 suiteS D σ H
  have htry : PS XX (.Try [.Expr (.Call (.Name a p1) [] [] p2) p3] [.ExceptHandler (some (.Name x p4)) (some e) (b₀ :: suite) p5] [] [] p6) (fun D σ H => tb (wAs XX.K (.ref CS) i ts W0 D) D σ H) := by
    refine L2N.ps_try_as (X := XX) (tb := tb) (ts := ts) rfl rfl hFS.nd hi hle hnames LamN.takes0 (fun W pn xe tk _ => ?_) (fun ad oe cls d pn hz hf => ?_)
    · refine ⟨fun pins s' σ H' D I h' => ?_⟩
      obtain ⟨Ech, hW, h1, h2, h3⟩ := h'
      have hp := act W pn xe Ech p1 p2 tk hW
      exact (pss_one (ps_expr (pos := p3) hp (by rfl))).run pins s' σ H' D I ⟨h1, h2, h3⟩
    · refine ⟨fun pins s' σ H' D I h' => ?_⟩
      obtain ⟨k, rfl, rfl, ⟨w0, hw0⟩, h'⟩ := h'
      obtain ⟨hex, hEx, hsb⟩ := h.cls k w0 hw0
      have hot : L2H.HotC (XX.suite ad ((ad, oe) :: pn)) := by
        obtain ⟨vs, hv⟩ := hf
        exact ⟨(ad, oe), ⟨rfl, vs, hv, hz.2.2 vs hv⟩, List.mem_cons_self⟩
      have eK : XX.K = S.K := is.K
      have eM : XX.mg = S.mg := is.mg
      have so : SOk p.bare (f.at ad k) wd nw [] 0 (XX.suite ad ((ad, oe) :: pn)) ⟨Ng, sg, true, true⟩ := {
        x := {
          N := rfl
          nd := hFS.nd
          sc := rfl
          calm := fun z => by cases z
          room := fun z => by cases z
          hot := fun _ => hot
          fn := fun k x hk => by simp [PC.bare] at hk
          kn := fun k => ⟨fun z => z.elim, fun ⟨x, z⟩ => by simp [PC.bare] at z⟩
          bt := fun y hy => by show XX.mg y = none; rw [eM]; exact h.bt y hy
          gcd := by show XX.mg "gcd" = _; rw [eM]; exact h.gcd
          isx := fun _ _ => by
            refine ⟨call_isE (X := XX) (D := f.ca k) (by rw [eK]; exact hEx) hz.zc hf, fun j b hb => ?_, fun j y hy => ?_⟩
            · show PySem.W.kitOne XX.K _ _ = _
              rw [eK]
              exact hsb j b hb
            · show XX.mg y = _
              rw [eM]
              exact h.cn j y hy
          gc := fun z hz => by simp [PC.bare] at hz
          kd := fun z hz => by simp [PC.bare] at hz
          er := fun _ z => by cases z }
        kind := hFS.kind
        loc := fun y hy => by
          refine ⟨?_, .inl rfl⟩
          have hy : loccell sg y = true := hy
          unfold loccell at hy
          split at hy
          · exact .inl (by assumption)
          · exact .inr (by assumption)
          · cases hy
        ra := fun z => by cases z
        po := fun z => by cases z }
      have hss := ss_ok suiteS (XX.suite ad ((ad, oe) :: pn)) ⟨Ng, sg, true, true⟩ C W0 (b₀ :: suite) so LamN.takes0 hm (fun _ => False) (fun _ => False) H' (fun _ z => z.elim)
      rw [evS_wd (p := p)] at hss
      exact hss.run pins s' σ H' D I h'
  have hret : PS XX (.Return (some (.Constant (.str nw) j p7)) p8) (tRet (tC (.str nw))) := ps_ret pe_str
  refine ⟨_, pss_cons htry (pss_one hret), ?_⟩
  refine ⟨fun cls d H' => d = none ∧ ∃ k x u, cls = .ref (f.ca k) ∧ wd k = some x ∧ Wd (gx X f) C H' u ∧ ∀ H'', Ext C H' H'' → Wd (gx X f) C H'' u → Q (.str x) H'', ?_, rfl, hc', ?_⟩
  · rintro cls d σ' H' hlen ⟨rfl, k, w0, u, rfl, hw0, wdk, hq⟩
    refine ⟨true, ?_, fun _ ad na => ?_, fun z => by cases z⟩
    · show PySem.W.exmOne X.K _ _ = _
      rw [is.K]
      exact (h.cls k w0 hw0).1
    · refine ⟨k, rfl, rfl, ⟨w0, hw0⟩, exEnv Ng.length i k, u, ?_, ⟨wdk.cup, wdk.tabs⟩, ?_⟩
      · refine ⟨fun _ => False, fun _ => 0, ⟨fun _ _ k _ _ _ => k, fun _ k => k⟩, fun a ha => ha.elim, fun j d e' => ?_, fun j d e' => ?_, fun j l d d' e' _ _ => ?_⟩
        · obtain ⟨rfl, _, rfl⟩ := exEnv_at e'
          exact ⟨.ref ad, List.getElem?_set_self (by omega), rfl, rfl⟩
        · have := (exEnv_at e').2.1
          cases this
        · have := (exEnv_at e').2.1
          cases this
      · rw [h.ev k w0 hw0 u]
        intro v H'' xt w'' rv
        have ev : v = .str w0 := rv
        subst ev
        exact hq H'' (ext_of (g := gx X f) (u := u) (u' := u) wdk ⟨w''.cup, w''.tabs⟩ xt) ⟨w''.cup, w''.tabs⟩
  · exact htt
end
end Ev

/-! From what stands in K to SysOk. -/
namespace Ev
open PySem PySem.Spec PyProof.Rows L2 LamX
/-- the def x of the text stands at fo -/
structure DF (K : PySem.W.Frag) (x : Str) (st : Stmt) (fo : Addr) (cdv : Value) : Prop where
  a : PySem.W.nsIn K mainGlobals x = some (some (.ref fo))
  k : PySem.W.keepIn K (.ref fo) = true
  l : ∃ (oc : Value) (od : Option Addr) (kV doc pm : Value) (an : Option Addr) (ct : Value) (osl : Array (Option Value)), K.lookup fo = some ⟨oc, od, .func (PySem.W.fnOf x x (defArgs st) (defBody st) (defScope st) .none kV doc pm an cdv ct), osl⟩
  c : PySem.W.codeIn K cdv x = true
theorem DF.mk' {K : PySem.W.Frag} {x : Str} {st : Stmt} {fo : Addr} {cdv : Value} {oc : Value} {od : Option Addr} {kV doc pm : Value} {an : Option Addr} {ct : Value} {osl : Array (Option Value)} (a : PySem.W.nsIn K mainGlobals x = some (some (.ref fo)))
    (l : K.lookup fo = some ⟨oc, od, .func (PySem.W.fnOf x x (defArgs st) (defBody st) (defScope st) .none kV doc pm an cdv ct), osl⟩) (c : PySem.W.codeIn K cdv x = true) (k : PySem.W.keepIn K (.ref fo) = true) : DF K x st fo cdv := ⟨a, k, ⟨oc, od, kV, doc, pm, an, ct, osl, l⟩, c⟩
/-! ### dicts of the module -/
def valD : Value → Option D
  | .none => some .non
  | .bool b => some (.bl b)
  | .int i _ => some (.int i)
  | .str x _ => some (.str x)
  | _ => none
def entD (e : DictEntry) : Option (Str × D) := match e.key, valD e.val with
  | .str x _, some d => some (x, d)
  | _, _ => none
def dicD (K : PySem.W.Frag) (a : Addr) : Option (List (Option (Str × D))) := match K.lookup a with
  | some ⟨_, _, .dict es _, _⟩ => some (es.toList.map entD)
  | _ => none
theorem valD_sc {u : Value} {d : D} (h : valD u = some d) : ∃ v, d.sc = some v ∧ RelV v u := by
  cases u <;> first | cases h | skip
  · exact ⟨.non, rfl, rfl⟩
  · exact ⟨.bl _, rfl, rfl⟩
  · exact ⟨.int _, rfl, ⟨_, rfl⟩⟩
  · exact ⟨.str _, rfl, ⟨_, rfl⟩⟩
theorem ent_find {z : Str} : ∀ {l : List DictEntry} {t : List (Str × D)}, l.map entD = t.map some → l.any (·.refKey) = false ∧ match l.find? (·.key.isStr z), t.lookup z with
    | none, none => True
    | some e, some d => ∃ v, d.sc = some v ∧ RelV v e.val
    | _, _ => False
  | [], [], _ => ⟨rfl, trivial⟩
  | [], _ :: _, h => by simp at h
  | _ :: _, [], h => by simp at h
  | e :: l, (x, d) :: t, h => by
    rw [List.map_cons, List.map_cons] at h
    injection h with h1 h2
    obtain ⟨i1, i2⟩ := ent_find (z := z) h2
    unfold entD at h1
    split at h1
    · rename_i y tk d' ek ev
      cases h1
      refine ⟨by rw [List.any_cons, i1]; simp [DictEntry.refKey, ek], ?_⟩
      rw [List.find?_cons, List.lookup_cons, ek]
      by_cases q : x = z
      · subst q
        simp only [Value.isStr, beq_self_eq_true]
        exact valD_sc ev
      · have q1 : (x == z) = false := beq_eq_false_iff_ne.mpr q
        have q2 : (z == x) = false := beq_eq_false_iff_ne.mpr fun e => q e.symm
        simp only [Value.isStr, q1, q2]
        exact i2
    · cases h1
theorem ktab_of {K : PySem.W.Frag} {w : World} {a : Addr} {ks : List Str} {t : List (Str × D)} (h : He.dicW K a = some (He.keysIn w.params ks)) (h2 : dicD K a = some (t.map some)) : KTab K w a t := by
  obtain ⟨es, n, k⟩ := He.dicW_ok h
  refine ⟨⟨es, n, k⟩, fun z => ?_⟩
  unfold dicD at h2
  rw [k.at_] at h2
  have h2 : es.toList.map entD = t.map some := Option.some.inj h2
  obtain ⟨e1, e2⟩ := ent_find (z := z) h2
  unfold PySem.W.nsIn
  rw [k.at_]
  dsimp only
  cases e3 : es.toList.find? (·.key.isStr z) with
  | none =>
    rw [e3] at e2
    refine ⟨none, by simp [e1], ?_⟩
    cases e4 : t.lookup z with
    | none => trivial
    | some d =>
      rw [e4] at e2
      exact e2.elim
  | some e =>
    rw [e3] at e2
    refine ⟨some e.val, rfl, ?_⟩
    cases e4 : t.lookup z with
    | none =>
      rw [e4] at e2
      exact e2.elim
    | some d =>
      rw [e4] at e2
      exact e2
def scOk (N ps : List Str) (sc : Scope) : Bool := decide (sc.kind = .function) && !sc.isCoroutine && !sc.isGenerator && decide N.Nodup && decide (N.take ps.length = ps) && ps.all (fun x => loccell sc x) && sc.names.all fun y => !decide (y.2 = .free)
theorem sc_of {N ps : List Str} {sc : Scope} (h : scOk N ps sc = true) : FnScope N ps sc := by
  unfold scOk at h
  simp only [Bool.and_eq_true, decide_eq_true_eq, Bool.not_eq_true', List.all_eq_true, decide_eq_false_iff_not] at h
  obtain ⟨⟨⟨⟨⟨⟨h1, h2⟩, h3⟩, h4⟩, h5⟩, h6⟩, h7⟩ := h
  refine ⟨h1, h2, h3, h4, h5, fun x hx => ?_, h7⟩
  have z := h6 x hx
  unfold loccell at z
  split at z
  · exact .inl (by assumption)
  · exact .inr (by assumption)
  · cases z
/-- all that is looked at in a def's text -/
def defChk (p : PC) (N ps : List Str) (er : Bool) (fd : FD) (st : Stmt) : Bool := scOk N ps (defScope st) && decide (N.length = fd.nn) && decide (ps.length = fd.np) && mSs p ⟨N, defScope st, er, false⟩ fd.body (defBody st)
/-- its arguments bind -/
def BindF (x : Str) (st : Stmt) (ps : List Str) : Prop := ∀ (kV doc pm : Value) (an : Option Addr) (cdv ct : Value) (us : List Value), us.length = ps.length → bindArgs (PySem.W.fnOf x x (defArgs st) (defBody st) (defScope st) .none kV doc pm an cdv ct) ⟨us, []⟩ = pure (ps.zip us)
theorem defOk_of {S : Sys} {p : PC} {f : Fx} {k : Nat} {fd : FD} {x : Str} {st : Stmt} {cdv : Value} {N ps : List Str} {er : Bool} (hx : p.fn[k]? = some x) (F : DF S.K x st (f.fa k) cdv) (hb : BindF x st ps) (h : defChk p N ps er fd st = true) (he : er = true → ErD S f (x ++ ".<locals>.") cdv) : DefOk S p f k fd := by
  unfold defChk at h
  simp only [Bool.and_eq_true, decide_eq_true_eq] at h
  obtain ⟨⟨⟨h2, h3⟩, h4⟩, h5⟩ := h
  obtain ⟨oc, od, kV, doc, pm, an, ct, osl, l⟩ := F.l
  exact ⟨x, x, defArgs st, defBody st, defScope st, .none, kV, doc, pm, cdv, ct, oc, an, od, osl, N, ps, er, hx, l, F.c, sc_of h2, h3, h4, .all (hb kV doc pm an cdv ct), h5, he⟩
end Ev

/-! The laws' _law_cup, by hand. -/
namespace Ev
open PySem PySem.Spec PyProof.Rows L2 LamX
/-- the cup of a script -/
def cellOf (ns : List Int) : Int := let z := (ns ++ [0]).headD 0; if z < 0 then -z else z
def cup0 (ns : List Int) : Cup := (if (10 : Int) ^ 18 ≤ cellOf ns then cellOf ns / 251 else 0, (cellOf ns * 509 + 7753) % 99833 + 367)
def spCup (K : PySem.W.Frag) : Sp := fun vs H Q _ => ∃ (a : Addr) (ns : List Int), vs = [.ref a] ∧ SqL K H a (ns.map V.int) ∧ ns.length ≤ 1000 ∧ ∀ (p : Addr) (H' : Hp), (∀ b o, H b = some o → H' b = some o) → H p = none → H' p = some (.lst [.int (cup0 ns).1, .int (cup0 ns).2]) → Q (.ref p) H'
theorem scCup {sc : Scope} (h : scOk ["script", "cell"] ["script"] sc = true) : FnScope ["script", "cell"] ["script"] sc := sc_of h
theorem cup_body {CX : CXT} {P : Program} {w : World} {K : PySem.W.Frag} {mg : Str → Option Value} {base : Heap} {sc : Scope} {fo : Addr} {cdv : Value} {n : Nat} {p0 p1 p2 p3 p4 p5 p6 p7 p8 p9 p10 p11 q0 q1 q2 q3 q4 q5 q6 q7 q8 q9 q10 q11 q12 q13 q14 q15 q16 q17 q18 q19 q20 q21 q22 : Pos} {A : Around} {outer : List Env} {s : Shared} {H : Hp} {vs : List V} {Q : VK} {E : XK}
    (hs : scOk ["script", "cell"] ["script"] sc = true) (hl : locl sc "script" = true) (hl2 : locl sc "cell" = true) (hg1 : glb sc "abs" = true) (hg2 : glb sc "list" = true) (hg3 : glb sc "int" = true) (m1 : mg "abs" = none) (m2 : mg "list" = none) (m3 : mg "int" = none)
    (hr : Room n (A.deeper (envOfC "_law_cup" sc s.heap.objs.size fo cdv))) (h : spCup K vs H Q E) :
    ∃ t, PSs (cxOf CX P w K mg base ["script", "cell"] "_law_cup" sc fo cdv A outer s H E) [
      .Assign [.Name "cell" p0] (.Call (.Name "abs" p1) [.Subscript (.BinOp (.Call (.Name "list" p2) [.Name "script" p3] [] p4) .Add (.List [.Constant (.int 0) 0 p5] p6) p7) (.Constant (.int 0) 0 p8) p9] [] p10) p11,
      .Return (some (.List [.IfExp (.Compare (.Name "cell" q0) [.GtE] [.BinOp (.Constant (.int 10) 0 q1) .Pow (.Constant (.int 18) 0 q2) q3] q4) (.BinOp (.Name "cell" q5) .FloorDiv (.Constant (.int 251) 0 q6) q7) (.Constant (.int 0) 0 q8) q9,
        .BinOp (.BinOp (.Call (.Name "int" q10) [.BinOp (.BinOp (.Name "cell" q11) .Mult (.Constant (.int 509) 0 q12) q13) .Add (.Constant (.int 7753) 0 q14) q15] [] q16) .Mod (.Constant (.int 99833) 0 q17) q18) .Add (.Constant (.int 367) 0 q19) q20] q21)) q22] t ∧ t { nx := fun _ H' => Q .non H', rt := Q } (L2.start ["script", "cell"] vs) H := by
  obtain ⟨a, ns, rfl, hS, hlen, k⟩ := h
  have S := sc_of hs
  have loc : ∀ {y : Str}, locl sc y = true → sc.names.lookup y = some .local := fun {y} h => by
    unfold locl at h
    split at h
    · assumption
    · cases h
  have gl : ∀ {y : Str}, glb sc y = true → sc.names.lookup y = some .globalImplicit := fun {y} h => by
    unfold Ev.glb at h
    split at h
    · assumption
    · cases h
  let X := cxOf CX P w K mg base ["script", "cell"] "_law_cup" sc fo cdv A outer s H E
  have vS : ∀ {q : Pos}, PE X (.Name "script" q) (tVar 0) := fun {q} => pe_var (i := 0) rfl (.inl (loc hl)) (by decide) (by decide)
  have vC : ∀ {q : Pos}, PE X (.Name "cell" q) (tVar 1) := fun {q} => pe_var (i := 1) rfl (.inl (loc hl2)) (by decide) (by decide)
  have G1 : Gl X "abs" := gl hg1
  have G2 : Gl X "list" := gl hg2
  have G3 : Gl X "int" := gl hg3
  have x1 : PE X (.Call (.Name "list" p2) [.Name "script" p3] [] p4) _ := pe_callTy call_list_of G2 m2 (by decide +kernel) (pa_cons vS pa_nil)
  have x2 : PE X (.List [.Constant (.int 0) 0 p5] p6) _ := pe_lst (pa_cons pe_int pa_nil)
  have x3 : PE X (.BinOp (.Call (.Name "list" p2) [.Name "script" p3] [] p4) .Add (.List [.Constant (.int 0) 0 p5] p6) p7) _ := pe_op (op_B .Add) x1 x2
  have c0 : ∀ {q : Pos} {i : Int}, PE X (.Constant (.int i) 0 q) (tC (.int i)) := fun {q i} => pe_int
  have x4 : PE X (.Subscript (.BinOp (.Call (.Name "list" p2) [.Name "script" p3] [] p4) .Add (.List [.Constant (.int 0) 0 p5] p6) p7) (.Constant (.int 0) 0 p8) p9) _ := pe_ix ix_seq x3 c0 (plainIx_of rfl)
  have x5 : PE X (.Call (.Name "abs" p1) [.Subscript (.BinOp (.Call (.Name "list" p2) [.Name "script" p3] [] p4) .Add (.List [.Constant (.int 0) 0 p5] p6) p7) (.Constant (.int 0) 0 p8) p9] [] p10) _ := pe_callB call_abs G1 m1 (by decide +kernel) (pa_cons x4 pa_nil)
  have s1 : PS X (.Assign [.Name "cell" p0] _ p11) _ := ps_set (i := 1) S.nd rfl (.inl (loc hl2)) x5 rfl (.inl rfl)
  have y1 : PE X (.BinOp (.Constant (.int 10) 0 q1) .Pow (.Constant (.int 18) 0 q2) q3) _ := pe_op (op_B .Pow) c0 c0
  have y2 : PT X (.Compare (.Name "cell" q0) [.GtE] [.BinOp (.Constant (.int 10) 0 q1) .Pow (.Constant (.int 18) 0 q2) q3] q4) _ := pt_cmpR (op_C hr .GtE) vC y1 rfl
  have y3 : PE X (.BinOp (.Name "cell" q5) .FloorDiv (.Constant (.int 251) 0 q6) q7) _ := pe_op (op_B .FloorDiv) vC c0
  have e1 : PE X (.IfExp (.Compare (.Name "cell" q0) [.GtE] [.BinOp (.Constant (.int 10) 0 q1) .Pow (.Constant (.int 18) 0 q2) q3] q4) (.BinOp (.Name "cell" q5) .FloorDiv (.Constant (.int 251) 0 q6) q7) (.Constant (.int 0) 0 q8) q9) _ := pe_ifExp y2 y3 c0
  have z1 : PE X (.BinOp (.Name "cell" q11) .Mult (.Constant (.int 509) 0 q12) q13) _ := pe_op (op_B .Mult) vC c0
  have z2 : PE X (.BinOp (.BinOp (.Name "cell" q11) .Mult (.Constant (.int 509) 0 q12) q13) .Add (.Constant (.int 7753) 0 q14) q15) _ := pe_op (op_B .Add) z1 c0
  have z3 : PE X (.Call (.Name "int" q10) [.BinOp (.BinOp (.Name "cell" q11) .Mult (.Constant (.int 509) 0 q12) q13) .Add (.Constant (.int 7753) 0 q14) q15] [] q16) _ := pe_callTy call_int1 G3 m3 (by decide +kernel) (pa_cons z2 pa_nil)
  have z4 : PE X (.BinOp (.Call (.Name "int" q10) [.BinOp (.BinOp (.Name "cell" q11) .Mult (.Constant (.int 509) 0 q12) q13) .Add (.Constant (.int 7753) 0 q14) q15] [] q16) .Mod (.Constant (.int 99833) 0 q17) q18) _ := pe_op (op_B .Mod) z3 c0
  have e2 : PE X (.BinOp (.BinOp (.Call (.Name "int" q10) [.BinOp (.BinOp (.Name "cell" q11) .Mult (.Constant (.int 509) 0 q12) q13) .Add (.Constant (.int 7753) 0 q14) q15] [] q16) .Mod (.Constant (.int 99833) 0 q17) q18) .Add (.Constant (.int 367) 0 q19) q20) _ := pe_op (op_B .Add) z4 c0
  have ll : PE X (.List [.IfExp (.Compare (.Name "cell" q0) [.GtE] [.BinOp (.Constant (.int 10) 0 q1) .Pow (.Constant (.int 18) 0 q2) q3] q4) (.BinOp (.Name "cell" q5) .FloorDiv (.Constant (.int 251) 0 q6) q7) (.Constant (.int 0) 0 q8) q9, .BinOp (.BinOp (.Call (.Name "int" q10) [.BinOp (.BinOp (.Name "cell" q11) .Mult (.Constant (.int 509) 0 q12) q13) .Add (.Constant (.int 7753) 0 q14) q15] [] q16) .Mod (.Constant (.int 99833) 0 q17) q18) .Add (.Constant (.int 367) 0 q19) q20] q21) _ := pe_lst (pa_cons e1 (pa_cons e2 pa_nil))
  have s2 : PS X (.Return _ q22) _ := ps_ret ll
  refine ⟨_, pss_cons s1 (pss_one s2), ?_⟩
  let z : Int := (ns ++ [0]).headD 0
  refine ⟨V.ref a, rfl, a, ns.map V.int, rfl, .inl hS, fun l nl => ⟨by decide, fun p2 np2 => ?_⟩⟩
  have nlp : l ≠ p2 := fun e => by
    rw [← e, upd_same] at np2
    cases np2
  refine .inr (.inl ⟨l, p2, ns.map V.int, [.int 0], rfl, rfl, by rw [upd_ne nlp, upd_same], upd_same, ?_, fun p3 np3 => ?_⟩)
  · have := big_le
    have hb : big = 16777216 := rfl
    simp only [List.length_map, List.length_cons, List.length_nil]
    omega
  refine .inl ⟨p3, ns.map V.int ++ [.int 0], 0, .int z, rfl, rfl, SqL.of upd_same, ?_, z, rfl, ?_⟩
  · show atI (ns.map V.int ++ [V.int 0]) 0 = some (V.int ((ns ++ [0]).headD 0))
    cases ns with
    | nil => rfl
    | cons x xs =>
      simp only [List.map_cons, List.cons_append, List.headD_cons, atI, ixN, List.length_cons]
      have : ((0 : Int) < ((xs.map V.int ++ [V.int 0]).length + 1 : Nat)) := by omega
      simp
      rw [if_pos (by omega)]
      rfl
  have hcell : (if z < 0 then -z else z) = cellOf ns := rfl
  rw [hcell]
  -- the heap has grown
  have g1 : ∀ b o, H b = some o → upd (upd (upd H l (.lst (ns.map V.int))) p2 (.lst [.int 0])) p3 (.lst (ns.map V.int ++ [.int 0])) b = some o := fun b o e => by
    have k1 : upd H l (.lst (ns.map V.int)) b = some o := by rw [upd_ne (ne_of_none e nl)]; exact e
    have k2 : upd (upd H l (.lst (ns.map V.int))) p2 (.lst [.int 0]) b = some o := by rw [upd_ne (ne_of_none k1 np2)]; exact k1
    rw [upd_ne (ne_of_none k2 np3)]
    exact k2
  generalize upd (upd (upd H l (.lst (ns.map V.int))) p2 (.lst [.int 0])) p3 (.lst (ns.map V.int ++ [.int 0])) = H3 at g1
  -- the returned list
  have fin : ∀ (x : Int), x = (cup0 ns).1 → tCons (tOp (rB K Operator.Add) (tOp (rB K Operator.Mod) (tCB (fun xs H Q => (∃ i, xs = [V.int i] ∧ Q (V.int i) H) ∨ ∃ k, xs = [V.bl k] ∧ Q (V.int (if k = true then 1 else 0)) H) (tCons (tOp (rB K Operator.Add) (tOp (rB K Operator.Mult) (tVar 1) (tC (V.int 509))) (tC (V.int 7753))) tNil)) (tC (V.int 99833))) (tC (V.int 367))) tNil [some (V.ref a), some (V.int (cellOf ns))] H3 (fun vs H1 => (V.int x :: vs).length ≤ sizeLine ∧ ∀ p, H1 p = none → Q (.ref p) (upd H1 p (.lst (V.int x :: vs)))) := fun x ex => by
    subst ex
    refine ⟨.int (cellOf ns), rfl, .inl ⟨_, _, rfl, rfl, .inr ⟨by decide, by decide⟩, .inl ⟨_, _, rfl, rfl, .inl ⟨_, rfl, _, _, rfl, rfl, (by show (0 : Int) < 99833; decide), .inl ⟨_, _, rfl, rfl, ?_⟩⟩⟩⟩⟩
    refine ⟨?_, fun p np => k p _ (fun b o e => ?_) ?_ upd_same⟩
    · have := big_le
      have hb : big = 16777216 := rfl
      simp only [List.length_cons, List.length_nil]
      omega
    · have k1 := g1 b o e
      rw [upd_ne (ne_of_none k1 np)]
      exact k1
    · cases q : H p with
      | none => rfl
      | some o =>
        have k1 := g1 p o q
        rw [np] at k1
        cases k1
  have hz : (10 : Int) ^ (18 : Int).toNat = 10 ^ 18 := rfl
  by_cases hc : (10 : Int) ^ 18 ≤ cellOf ns
  · refine ⟨.int (cellOf ns), rfl, 10, 18, rfl, rfl, ⟨by decide, by decide, by decide⟩, cellOf ns, _, rfl, rfl, true, by show V.bl (decide ((10 : Int) ^ 18 ≤ cellOf ns)) = V.bl true; rw [decide_eq_true hc], ?_⟩
    refine iteT ?_
    refine ⟨.int (cellOf ns), rfl, _, _, rfl, rfl, ⟨by decide, by decide⟩, ?_⟩
    exact fin _ (by unfold cup0; rw [if_pos hc])
  · refine ⟨.int (cellOf ns), rfl, 10, 18, rfl, rfl, ⟨by decide, by decide, by decide⟩, cellOf ns, _, rfl, rfl, false, by show V.bl (decide ((10 : Int) ^ 18 ≤ cellOf ns)) = V.bl false; rw [decide_eq_false hc], ?_⟩
    refine iteF ?_
    exact fin _ (by unfold cup0; rw [if_neg hc])
end Ev

/-! The def law: its first statement by hand, the rest by the evaluator. -/
namespace Ev
open PySem PySem.Spec PyProof.Rows L2 LamX
def lawEnv (nn : Nat) : En := none :: some (false, .cup) :: List.replicate (nn - 2) none
def spLaw (K : PySem.W.Frag) (f : Fx) : Sp := fun vs H Q _ => ∃ (a : Addr) (ns : List Int), vs = [.ref a] ∧ SqL K H a (ns.map V.int) ∧ ns.length ≤ 63 ∧ (∀ q ∈ f.T, H q.1 = some (.tbl #[])) ∧ ∀ H', Q (.bl true) H'
section
variable {S : Sys} {p : PC} {f : Fx} {wd : Words} {nw : Str} {pr : List FD} {n : Nat}
theorem law_ok (h : SysOk S p f wd nw pr) {st : Stmt} {fo fc : Addr} {cdv : Value} {fdc : FuncData} {N : List Str} {sS : List Sx} {rest : List Stmt} {p0 p1 p2 p3 p4 : Pos} (F : DF S.K "law" st fo cdv) (hst : defBody st = .Assign [.Name "cup" p0] (.Call (.Name "_law_cup" p1) [.Name "script" p2] [] p3) p4 :: rest)
    (hsc : scOk N ["script"] (defScope st) = true) (h0 : N[0]? = some ("script" : Str)) (h1 : N[1]? = some ("cup" : Str)) (hl : locl (defScope st) "script" = true) (hl2 : locl (defScope st) "cup" = true) (hg : glb (defScope st) "_law_cup" = true) (hm : mSs p ⟨N, defScope st, false, false⟩ sS rest = true)
    (mc : S.mg "_law_cup" = some (.ref fc)) (kc : PySem.W.keepIn S.K (.ref fc) = true) (bc : Binds S.K fdc ["script"] []) (Fc : FnOk S.P S.w S.K S.mg S.base (L2N.CX S.P S.w) 1 fc fdc ["script"] (spCup S.K))
    (hplain : ∀ ns : List Int, ns.length ≤ 63 → ∃ u', evSs wd nw (run wd nw pr n) sS (lawEnv N.length) (cup0 ns) = .ret (.bl true) u') :
    ∃ (oc : Value) (od : Option Addr) (kV doc pm : Value) (an : Option Addr) (ct : Value) (osl : Array (Option Value)), S.K.lookup fo = some ⟨oc, od, .func (PySem.W.fnOf "law" "law" (defArgs st) (defBody st) (defScope st) .none kV doc pm an cdv ct), osl⟩ ∧
      FnOk S.P S.w S.K S.mg S.base (L2N.CX S.P S.w) (3 * n + 3) fo (PySem.W.fnOf "law" "law" (defArgs st) (defBody st) (defScope st) .none kV doc pm an cdv ct) ["script"] (spLaw S.K f) := by
  obtain ⟨oc, od, kV, doc, pm, an, ct, osl, lk⟩ := F.l
  refine ⟨oc, od, kV, doc, pm, an, ct, osl, lk, ?_⟩
  have Sc := sc_of hsc
  have loc : ∀ {y : Str}, locl (defScope st) y = true → (defScope st).names.lookup y = some .local := fun {y} h => by
    unfold locl at h
    split at h
    · assumption
    · cases h
  have gl : ∀ {y : Str}, glb (defScope st) y = true → (defScope st).names.lookup y = some .globalImplicit := fun {y} h => by
    unfold Ev.glb at h
    split at h
    · assumption
    · cases h
  refine fn_of (k := 3 * n + 2) lk F.c Sc (fun vs H Q E q => ?_) fun A outer s H vs Q E hr q => ?_
  · obtain ⟨a, ns, rfl, _⟩ := q
    rfl
  · obtain ⟨a, ns, rfl, hS, hlen, hT, k⟩ := q
    let W : WX := fun cls d _ H => E cls d H
    let X := cxOf (L2N.CX S.P S.w) S.P S.w S.K S.mg S.base N "law" (defScope st) fo cdv A outer s H E
    have tk : L2N.Takes X W := L2N.takes_of rfl rfl rfl rfl
    have so : SOk p f wd nw pr n X ⟨N, defScope st, false, false⟩ := h.sok (n := n) (defs_ok h n) (E := E) (outer := outer) (s := s) (H := H) Sc hr (fun z => by cases z)
    have vS : PE X (.Name "script" p2) (tVar 0) := pe_var (i := 0) h0 (.inl (loc hl)) (by decide) (by decide)
    have hG : Gl X "_law_cup" := gl hg
    have x1 : PE X (.Call (.Name "_law_cup" p1) [.Name "script" p2] [] p3) _ := pe_callS Fc (hr.mono (by omega)) hG mc kc bc (fun σ => L2N.passAt tk σ) (pa_cons vS pa_nil)
    have s1 : PS X (.Assign [.Name "cup" p0] (.Call (.Name "_law_cup" p1) [.Name "script" p2] [] p3) p4) _ := ps_set (i := 1) Sc.nd h1 (.inl (loc hl2)) x1 rfl (.inl rfl)
    rw [hst]
    -- the rest, for any cup
    let tr : TS := fun D σ H' => ∃ C u, tSs (gx X f) C wd nw (run wd nw pr n) (fun _ => False) (fun _ => False) H' W sS D σ H' ∧ u = ()
    have s2 : PSs X rest tr := ⟨fun pins s' σ H' D I ⟨C, _, q, _⟩ => (ss_ok sS X _ C W rest so tk hm (fun _ => False) (fun _ => False) H' (fun _ z => z.elim)).run pins s' σ H' D I q⟩
    refine ⟨_, pss_cons s1 s2, ?_⟩
    have g0 : (L2.start N [V.ref a])[0]? = some (some (V.ref a)) := rfl
    refine ⟨V.ref a, g0, a, ns, rfl, hS, by omega, fun q H' kp nq hq => ?_⟩
    obtain ⟨u', hu⟩ := hplain ns hlen
    have hN2 : 1 < N.length := (List.getElem?_eq_some_iff.mp h1).1
    refine ⟨q, (), ⟨lawEnv N.length, cup0 ns, ?_, ⟨hq, fun t ht => ?_⟩, ?_⟩, rfl⟩
    · have cases1 : ∀ {i : Nat} {b : Bool} {d : D}, (lawEnv N.length)[i]? = some (some (b, d)) → i = 1 ∧ b = false ∧ d = .cup := fun {i b d} e => by
        unfold lawEnv at e
        match i, e with
        | 0, e => cases e
        | 1, e => cases e; exact ⟨rfl, rfl, rfl⟩
        | i + 2, e =>
          rw [List.getElem?_cons_succ, List.getElem?_cons_succ, List.getElem?_replicate] at e
          split at e <;> cases e
      refine ⟨fun _ => False, fun _ => 0, ⟨fun _ _ k _ _ _ => k, fun _ k => k⟩, fun a ha => ha.elim, fun i d e => ?_, fun i d e => ?_, fun i j d d' e _ _ => ?_⟩
      · obtain ⟨rfl, _, rfl⟩ := cases1 e
        refine ⟨.ref q, ?_, rfl⟩
        refine List.getElem?_set_self ?_
        unfold L2.start
        simp
        omega
      · have := (cases1 e).2.1
        cases this
      · have := (cases1 e).2.1
        cases this
    · exact TabS.nil (kp _ _ (hT t ht))
    · rw [hu]
      intro v H'' xt w'' rv
      have ev : v = .bl true := rv
      subst ev
      exact k H''
end
/-- the end of a law's proof -/
theorem law_at {l : PySem.W.OpenLaw} {w : World} {K : PySem.W.Frag} {mg : Str → Option Value} {fa fo fc : Addr} {h : Heap} {p : PC} {f : Fx} {wd : Words} {nw : Str} {pr : List FD} {n : Nat} {cs : List (Addr × Addr)} {st stc : Stmt} {cdv cdc : Value} {N : List Str} {sS : List Sx} {rest : List Stmt} {p0 p1 p2 p3 p4 : Pos}
    {a0 a1 a2 a3 a4 a5 a6 a7 a8 a9 a10 a11 q0 q1 q2 q3 q4 q5 q6 q7 q8 q9 q10 q11 q12 q13 q14 q15 q16 q17 q18 q19 q20 q21 q22 : Pos}
    (KX : K.In h) (G : h.Ns mainGlobals mg) (hfa : mg "law" = some (.ref fa)) (hT : ∀ q ∈ cs, h.get? q.2 = some { cls := .none, data := .fields #[] }) (nT : ∀ q ∈ cs, K.lookup q.2 = none) (hC : ∀ q ∈ cs, PySem.W.codeHdIn K q.1 q.2 = true) (hfT : ∀ q ∈ f.T, ∃ c, (c, q.1) ∈ cs)
    (hS : ∀ base : Heap, (∀ q ∈ cs, TabB base mg q.1 q.2) → SysOk ⟨l.prog, w, K, mg, base⟩ p f wd nw pr) (F : DF K "law" st fo cdv) (hbl : BindF "law" st ["script"]) (hst : defBody st = .Assign [.Name "cup" p0] (.Call (.Name "_law_cup" p1) [.Name "script" p2] [] p3) p4 :: rest)
    (hsc : scOk N ["script"] (defScope st) = true) (h0 : N[0]? = some ("script" : Str)) (h1 : N[1]? = some ("cup" : Str)) (hl : locl (defScope st) "script" = true) (hl2 : locl (defScope st) "cup" = true) (hg : glb (defScope st) "_law_cup" = true) (hm : mSs p ⟨N, defScope st, false, false⟩ sS rest = true)
    (Fc : DF K "_law_cup" stc fc cdc) (hbc : BindF "_law_cup" stc ["script"]) (hsc2 : scOk ["script", "cell"] ["script"] (defScope stc) = true) (c1 : locl (defScope stc) "script" = true) (c2 : locl (defScope stc) "cell" = true) (g1 : glb (defScope stc) "abs" = true) (g2 : glb (defScope stc) "list" = true) (g3 : glb (defScope stc) "int" = true)
    (m1 : mg "abs" = none) (m2 : mg "list" = none) (m3 : mg "int" = none)
    (hcb : defBody stc = [
      .Assign [.Name "cell" a0] (.Call (.Name "abs" a1) [.Subscript (.BinOp (.Call (.Name "list" a2) [.Name "script" a3] [] a4) .Add (.List [.Constant (.int 0) 0 a5] a6) a7) (.Constant (.int 0) 0 a8) a9] [] a10) a11,
      .Return (some (.List [.IfExp (.Compare (.Name "cell" q0) [.GtE] [.BinOp (.Constant (.int 10) 0 q1) .Pow (.Constant (.int 18) 0 q2) q3] q4) (.BinOp (.Name "cell" q5) .FloorDiv (.Constant (.int 251) 0 q6) q7) (.Constant (.int 0) 0 q8) q9,
        .BinOp (.BinOp (.Call (.Name "int" q10) [.BinOp (.BinOp (.Name "cell" q11) .Mult (.Constant (.int 509) 0 q12) q13) .Add (.Constant (.int 7753) 0 q14) q15] [] q16) .Mod (.Constant (.int 99833) 0 q17) q18) .Add (.Constant (.int 367) 0 q19) q20] q21)) q22])
    (hplain : ∀ ns : List Int, ns.length ≤ 63 → ∃ u', evSs wd nw (run wd nw pr n) sS (lawEnv N.length) (cup0 ns) = .ret (.bl true) u') :
    LawAtS l w K (L2N.CX l.prog w) (3 * n + 3) 63 "script" mg fa h := by
  have e := hfa.symm.trans (PySem.W.mg_of KX G F.a)
  cases e
  obtain ⟨oc, od, kV, doc, pm, an, ct, osl, lk⟩ := F.l
  obtain ⟨oc', od', kV', doc', pm', an', ct', osl', lk'⟩ := Fc.l
  have hcH : ∀ q ∈ cs, PySem.W.CodeHd h q.1 q.2 := fun q hq => PySem.W.codeHd_of_K KX (hC q hq)
  refine ⟨PySem.W.fnOf "law" "law" (defArgs st) (defBody st) (defScope st) .none kV doc pm an cdv ct, cs, spLaw K f, hT, nT, hcH, fun s u => .of_eq (hbl kV doc pm an cdv ct [u] rfl), fun H a ns hlen _ hHT hSq => ⟨a, ns, rfl, hSq, hlen, fun q hq => ?_, fun _ => rfl⟩, fun base KB GB TB => ?_⟩
  · obtain ⟨c, hc⟩ := hfT q hq
    exact hHT _ hc
  · have hcup : FnOk l.prog w K mg base (L2N.CX l.prog w) 1 fc (PySem.W.fnOf "_law_cup" "_law_cup" (defArgs stc) (defBody stc) (defScope stc) .none kV' doc' pm' an' cdc ct') ["script"] (spCup K) := by
      refine fn_of (k := 0) lk' Fc.c (sc_of hsc2) (fun vs H Q E q => ?_) fun A outer s H vs Q E hr q => ?_
      · obtain ⟨a, ns, rfl, _⟩ := q
        rfl
      · rw [hcb]
        exact cup_body hsc2 c1 c2 g1 g2 g3 m1 m2 m3 hr q
    obtain ⟨oc2, od2, kV2, doc2, pm2, an2, ct2, osl2, lk2, R⟩ := law_ok (S := ⟨l.prog, w, K, mg, base⟩) (n := n) (hS base TB) F hst hsc h0 h1 hl hl2 hg hm (PySem.W.mg_of KX G Fc.a) Fc.k (.all (hbc kV' doc' pm' an' cdc ct')) hcup hplain
    have e2 := lk.symm.trans lk2
    cases e2
    exact R
end Ev

/-! Plain facts about the evaluator, for all laws. -/
namespace Ev
open PySem
def SR.fin : SR → Re D
  | .next _ u1 => .ok .non u1
  | .ret d u1 => .ok d u1
  | .exc j u1 => .exc j u1
  | .bad => .bad
theorem run_succ {wd : Words} {nw : Str} {P : List FD} {n k : Nat} {ds : List D} {u : Cup} (fd : FD) (h : P[k]? = some fd) (hl : ds.length = fd.np) : Ev.run wd nw P (n + 1) k ds u = SR.fin (evSs wd nw (Ev.run wd nw P n) fd.body (Ev.start ds fd.nn) u) := by
  simp only [Ev.run, h, hl, if_true]
  cases evSs wd nw (Ev.run wd nw P n) fd.body (Ev.start ds fd.nn) u <;> rfl
theorem log9 {z : Int} {b : Nat} (h : z.natAbs < 2 ^ b) (h0 : 0 < b) (hb : b ≤ 9000) : z.natAbs.log2 < 9000 := Nat.lt_of_lt_of_le (PySem.Flt.log2_lt_of h0 h) hb
/-! ### places -/
theorem atI_nat {α : Type} {xs : List α} {k : Nat} : L2.atI xs (k : Int) = xs[k]? := by
  simp only [L2.atI, L2.ixN]
  by_cases h : k < xs.length
  · simp [h]
  · simp [h]
theorem atI_get {xs : List D} {z : Int} (h0 : 0 ≤ z) (h1 : z < xs.length) : ∃ d, L2.atI xs z = some d ∧ d ∈ xs := by
  obtain ⟨k, rfl⟩ := Int.eq_ofNat_of_zero_le h0
  have hk : k < xs.length := by omega
  exact ⟨xs[k], by rw [atI_nat]; simp [hk], List.getElem_mem hk⟩
/-! ### operators -/
theorem ne_I {i j : Int} : cmpV .NotEq (.int i) (.int j) = some (.bl (!(i == j))) := rfl
theorem eq_I {i j : Int} : cmpV .Eq (.int i) (.int j) = some (.bl (i == j)) := rfl
theorem eq_B {i j : Bool} : cmpV .Eq (.bl i) (.bl j) = some (.bl (i == j)) := by cases i <;> cases j <;> rfl
theorem eq_N : cmpV .Eq (.lst []) (.lst []) = some (.bl true) := rfl
abbrev SO (a : Str) : Prop := PyData.strOk a = true
theorem eq_S {a b : Str} (ha : SO a) (hb : SO b) : cmpV .Eq (.str a) (.str b) = some (.bl (decide (a = b))) := by
  have h1 : SeqAt.shaped (.str a) = true := by simp [SeqAt.shaped, PyData.canLay0, PyData.depth, ha]
  have h2 : SeqAt.shaped (.str b) = true := by simp [SeqAt.shaped, PyData.canLay0, PyData.depth, hb]
  by_cases h : a = b
  · subst h
    simp [cmpV, D.eq, D.toP, h1, PyData.eqv]
  · simp [cmpV, D.eq, D.toP, h1, h2, PyData.eqv, h]
theorem ne_S {a b : Str} (ha : SO a) (hb : SO b) : cmpV .NotEq (.str a) (.str b) = some (.bl (!decide (a = b))) := by
  have h1 : SeqAt.shaped (.str a) = true := by simp [SeqAt.shaped, PyData.canLay0, PyData.depth, ha]
  have h2 : SeqAt.shaped (.str b) = true := by simp [SeqAt.shaped, PyData.canLay0, PyData.depth, hb]
  by_cases h : a = b
  · subst h
    simp [cmpV, D.eq, D.toP, h1, PyData.eqv]
  · simp [cmpV, D.eq, D.toP, h1, h2, PyData.eqv, h]
theorem leI {i j : Int} : cmpV .LtE (.int i) (.int j) = some (.bl (decide (i ≤ j))) := rfl
theorem geI {i j : Int} : cmpV .GtE (.int i) (.int j) = some (.bl (decide (j ≤ i))) := rfl
theorem ltI {i j : Int} : cmpV .Lt (.int i) (.int j) = some (.bl (decide (i < j))) := rfl
theorem gtI {i j : Int} : cmpV .Gt (.int i) (.int j) = some (.bl (decide (j < i))) := rfl
theorem addI {i j : Int} : binV .Add (.int i) (.int j) = some (.int (i + j)) := rfl
theorem subI {i j : Int} : binV .Sub (.int i) (.int j) = some (.int (i - j)) := rfl
theorem mulI {i j : Int} (h : j.natAbs < 18446744073709551616) : binV .Mult (.int i) (.int j) = some (.int (i * j)) := by
  have h1 : mulOk i j = true := by simp [mulOk, h]
  simp [binV, h1]
theorem addL {xs ys : List D} (h : xs.length + ys.length ≤ 16777216) : binV .Add (.lst xs) (.lst ys) = some (.lst (xs ++ ys)) := by
  simp only [binV]
  rw [if_pos (show xs.length + ys.length ≤ big from h)]
theorem addT {xs ys : List D} (h : xs.length + ys.length ≤ 16777216) : binV .Add (.tup xs) (.tup ys) = some (.tup (xs ++ ys)) := by
  simp only [binV]
  rw [if_pos (show xs.length + ys.length ≤ big from h)]
theorem mulL {xs : List D} {k : Int} (h0 : 0 ≤ k) (h1 : k < 1000) (h2 : xs.length ≤ 1000) : binV .Mult (.lst xs) (.int k) = some (.lst (rep k.toNat xs)) := by
  have h3 : xs.length * k.toNat ≤ 1000 * 1000 := Nat.mul_le_mul h2 (by omega)
  have h4 : 0 ≤ k ∧ k < 1000000 ∧ xs.length * k.toNat ≤ big := ⟨h0, by omega, Nat.le_trans h3 (by decide)⟩
  simp only [binV]
  rw [if_pos h4]
theorem scs_str {ns : List Str} : scs (ns.map D.str) = some (ns.map L2.V.str) := by
  induction ns with
  | nil => rfl
  | cons a ns ih => simp [scs, D.sc, ih]
theorem inV_str {a : Str} {ns : List Str} : L2.inV (.str a) (ns.map L2.V.str) = decide (a ∈ ns) := by
  unfold L2.inV
  induction ns with
  | nil => rfl
  | cons b ns ih =>
    rw [List.map_cons, List.any_cons, ih]
    by_cases h : b = a
    · subst h
      simp [L2.eqV]
    · have h' : ¬ a = b := fun e => h e.symm
      simp [L2.eqV, h, h']
theorem in_L {a : Str} {ns : List Str} : cmpV .In (.str a) (.lst (ns.map D.str)) = some (.bl (decide (a ∈ ns))) := by
  simp [cmpV, inS, D.sc, scs_str, inV_str]
theorem nin_L {a : Str} {ns : List Str} : cmpV .NotIn (.str a) (.lst (ns.map D.str)) = some (.bl (!decide (a ∈ ns))) := by
  simp [cmpV, inS, D.sc, scs_str, inV_str]
theorem scs_int {ns : List Int} : scs (ns.map D.int) = some (ns.map L2.V.int) := by
  induction ns with
  | nil => rfl
  | cons a ns ih => simp [scs, D.sc, ih]
theorem inV_int {a : Int} {ns : List Int} : L2.inV (.int a) (ns.map L2.V.int) = decide (a ∈ ns) := by
  unfold L2.inV
  induction ns with
  | nil => rfl
  | cons b ns ih =>
    rw [List.map_cons, List.any_cons, ih]
    by_cases h : b = a
    · subst h
      simp [L2.eqV]
    · have h' : ¬ a = b := fun e => h e.symm
      simp [L2.eqV, h, h']
theorem in_I {a : Int} {ns : List Int} : cmpV .In (.int a) (.lst (ns.map D.int)) = some (.bl (decide (a ∈ ns))) := by
  simp [cmpV, inS, D.sc, scs_int, inV_int]
theorem nin_I {a : Int} {ns : List Int} : cmpV .NotIn (.int a) (.lst (ns.map D.int)) = some (.bl (!decide (a ∈ ns))) := by
  simp [cmpV, inS, D.sc, scs_int, inV_int]
theorem idx_I {ns : List Int} {i : Nat} {x : Int} (nd : ns.Nodup) (h : ns[i]? = some x) : idxV (.lst (ns.map D.int)) (.int x) = some (.int i) := by
  have key : ∀ {ns : List Int} {i : Nat}, ns.Nodup → ns[i]? = some x → (ns.map L2.V.int).findIdx? (fun z => L2.eqV z (.int x)) = some i := by
    intro ns
    induction ns with
    | nil => intro i _ h; simp at h
    | cons a ns ih =>
      intro i nd h
      rw [List.nodup_cons] at nd
      cases i with
      | zero =>
        simp at h
        subst h
        simp [List.findIdx?_cons, L2.eqV]
      | succ i =>
        have h' : ns[i]? = some x := by simpa using h
        have ne : a ≠ x := fun e => nd.1 (e ▸ List.mem_of_getElem? h')
        rw [List.map_cons, List.findIdx?_cons, ih nd.2 h']
        simp [L2.eqV, ne]
  simp [idxV, D.sc, scs_int, key nd h]
theorem idx_S {ns : List Str} {i : Nat} {x : Str} (nd : ns.Nodup) (h : ns[i]? = some x) : idxV (.lst (ns.map D.str)) (.str x) = some (.int i) := by
  have key : ∀ {ns : List Str} {i : Nat}, ns.Nodup → ns[i]? = some x → (ns.map L2.V.str).findIdx? (fun z => L2.eqV z (.str x)) = some i := by
    intro ns
    induction ns with
    | nil => intro i _ h; simp at h
    | cons a ns ih =>
      intro i nd h
      rw [List.nodup_cons] at nd
      cases i with
      | zero =>
        simp at h
        subst h
        simp [List.findIdx?_cons, L2.eqV]
      | succ i =>
        have h' : ns[i]? = some x := by simpa using h
        have ne : a ≠ x := fun e => nd.1 (e ▸ List.mem_of_getElem? h')
        rw [List.map_cons, List.findIdx?_cons, ih nd.2 h']
        simp [L2.eqV, ne]
  simp [idxV, D.sc, scs_str, key nd h]
/-! ### lists of one kind -/
theorem allI_int {l : List Int} : allI (l.map D.int) = some l := by
  induction l with
  | nil => rfl
  | cons i l ih => simp [allI, ih]
theorem stl_str {l : List Str} : stl (l.map D.str) = some l := by
  induction l with
  | nil => rfl
  | cons i l ih => simp [stl, ih]
theorem bls_bl {l : List Bool} : bls (l.map D.bl) = some l := by
  induction l with
  | nil => rfl
  | cons d l ih => simp [bls, ih]
theorem bls_true {α : Type} {l : List α} : bls (l.map fun _ => D.bl true) = some (l.map fun _ => true) := by
  induction l with
  | nil => rfl
  | cons d l ih => simp [bls, ih]
theorem all_true {α : Type} {l : List α} : biV .all [.lst (l.map fun _ => D.bl true)] = some (.bl true) := by
  simp [biV, bls_true]
theorem any_bl {l : List Bool} : biV .any [.lst (l.map D.bl)] = some (.bl (l.any id)) := by
  simp [biV, bls_bl]
theorem all_bl {l : List Bool} : biV .all [.lst (l.map D.bl)] = some (.bl (l.all id)) := by
  simp [biV, bls_bl]
theorem sum_I {l : List Int} : biV .sum [.lst (l.map D.int)] = some (.int l.sum) := by
  simp [biV, allI_int]
theorem toPs_str {l : List Str} : D.toPs (l.map D.str) = some (l.map PyData.str) := by
  induction l with
  | nil => rfl
  | cons a l ih => simp [D.toPs, D.toP, ih]
theorem lay_str {l : List Str} (h : ∀ a ∈ l, SO a) : PyData.canLayAll0 (l.map PyData.str) = true ∧ PyData.depthAll (l.map PyData.str) = 0 := by
  induction l with
  | nil => exact ⟨by simp [PyData.canLayAll0], by simp [PyData.depthAll]⟩
  | cons a l ih =>
    obtain ⟨h1, h2⟩ := ih fun b hb => h b (List.mem_cons_of_mem _ hb)
    have h0 := h a List.mem_cons_self
    exact ⟨by simp [PyData.canLayAll0, PyData.canLay0, h1, h0], by simp [PyData.depthAll, PyData.depth, h2]⟩
theorem ne_L {l : List Str} (h : ∀ a ∈ l, SO a) : cmpV .NotEq (.lst (l.map D.str)) (.lst []) = some (.bl (!l.isEmpty)) := by
  obtain ⟨h1, h2⟩ := lay_str h
  have s1 : SeqAt.shaped (.list (l.map PyData.str)) = true := by
    simp [SeqAt.shaped, PyData.canLay0, PyData.depth, h1, h2]
  have s2 : SeqAt.shaped (.list []) = true := by decide +kernel
  have ev : PyData.eqv (.list (l.map PyData.str)) (.list []) = l.isEmpty := by
    cases l <;> simp [PyData.eqv, PyData.eqvAll]
  simp [cmpV, D.eq, D.toP, toPs_str, D.toPs, s1, s2, ev]
theorem toPs_int {l : List Int} : D.toPs (l.map D.int) = some (l.map PyData.int) := by
  induction l with
  | nil => rfl
  | cons a l ih => simp [D.toPs, D.toP, ih]
theorem lay_int {l : List Int} : PyData.canLayAll0 (l.map PyData.int) = true ∧ PyData.depthAll (l.map PyData.int) = 0 := by
  induction l with
  | nil => exact ⟨by simp [PyData.canLayAll0], by simp [PyData.depthAll]⟩
  | cons a l ih => exact ⟨by simp [PyData.canLayAll0, PyData.canLay0, ih.1], by simp [PyData.depthAll, PyData.depth, ih.2]⟩
theorem ne_LI {l : List Int} : cmpV .NotEq (.lst (l.map D.int)) (.lst []) = some (.bl (!l.isEmpty)) := by
  obtain ⟨h1, h2⟩ := lay_int (l := l)
  have s1 : SeqAt.shaped (.list (l.map PyData.int)) = true := by
    simp [SeqAt.shaped, PyData.canLay0, PyData.depth, h1, h2]
  have s2 : SeqAt.shaped (.list []) = true := by decide +kernel
  have ev : PyData.eqv (.list (l.map PyData.int)) (.list []) = l.isEmpty := by
    cases l <;> simp [PyData.eqv, PyData.eqvAll]
  simp [cmpV, D.eq, D.toP, toPs_int, D.toPs, s1, s2, ev]
/-! ### comprehensions -/
theorem lc_map {F : D → Cup → Re (Option D)} {g : D → D} {u : Cup} : ∀ {l : List D}, (∀ d ∈ l, F d u = .ok (some (g d)) u) → lcLoop F l u = .ok (l.map g) u
  | [], _ => rfl
  | d :: l, h => by
    simp only [lcLoop, h d List.mem_cons_self, Re.bind, lc_map (fun d' hd => h d' (List.mem_cons_of_mem _ hd)), optCons, List.map_cons]
theorem lc_mapG {α : Type} {F : D → Cup → Re (Option D)} {e : α → D} {g : α → D} {u : Cup} : ∀ {l : List α}, (∀ d ∈ l, F (e d) u = .ok (some (g d)) u) → lcLoop F (l.map e) u = .ok (l.map g) u
  | [], _ => rfl
  | d :: l, h => by
    simp only [List.map_cons, lcLoop, h d List.mem_cons_self, Re.bind, lc_mapG (fun d' hd => h d' (List.mem_cons_of_mem _ hd)), optCons]
theorem lc_some {F : D → Cup → Re (Option D)} {g : D → Option D} {u : Cup} : ∀ {l : List D}, (∀ d ∈ l, F d u = .ok (g d) u) → lcLoop F l u = .ok (l.filterMap g) u
  | [], _ => rfl
  | d :: l, h => by
    simp only [lcLoop, h d List.mem_cons_self, Re.bind, lc_some (fun d' hd => h d' (List.mem_cons_of_mem _ hd)), List.filterMap_cons]
    cases g d <;> rfl
theorem lc_filterG {α : Type} {F : D → Cup → Re (Option D)} {e : α → D} {p : α → Bool} {g : α → D} {u : Cup} : ∀ {l : List α}, (∀ a ∈ l, F (e a) u = .ok (if p a then some (g a) else none) u) → lcLoop F (l.map e) u = .ok ((l.filter p).map g) u
  | [], _ => rfl
  | a :: l, h => by
    rw [List.map_cons]
    simp only [lcLoop, h a List.mem_cons_self, Re.bind, lc_filterG (fun a' h' => h a' (List.mem_cons_of_mem _ h')), List.filter_cons]
    cases p a <;> rfl
theorem lc_none {F : D → Cup → Re (Option D)} {u : Cup} : ∀ {l : List D}, (∀ d ∈ l, F d u = .ok none u) → lcLoop F l u = .ok [] u
  | [], _ => rfl
  | d :: l, h => by
    simp only [lcLoop, h d List.mem_cons_self, Re.bind, lc_none (fun d' hd => h d' (List.mem_cons_of_mem _ hd)), optCons]
/-- a comprehension that draws -/
theorem lc_draw {F : D → Cup → Re (Option D)} {P : D → Prop} : ∀ {l : List D} {u : Cup}, (∀ d ∈ l, ∀ u, ∃ y u', F d u = .ok (some y) u' ∧ P y) → ∃ ys u', lcLoop F l u = .ok ys u' ∧ ys.length = l.length ∧ ∀ y ∈ ys, P y
  | [], u, _ => ⟨[], u, rfl, rfl, fun y h => by cases h⟩
  | d :: l, u, h => by
    obtain ⟨y, u1, e1, p1⟩ := h d List.mem_cons_self u
    obtain ⟨ys, u2, e2, l2, p2⟩ := lc_draw (l := l) (u := u1) fun d' hd => h d' (List.mem_cons_of_mem _ hd)
    refine ⟨y :: ys, u2, by simp only [lcLoop, e1, Re.bind, e2, optCons], by simp [l2], fun z hz => ?_⟩
    rcases List.mem_cons.mp hz with rfl | hz
    · exact p1
    · exact p2 z hz
/-! ### loops -/
theorem for_inv {f : D → En → Cup → SR} (I : Nat → En → Cup → Prop) : ∀ {xs : List D} {k : Nat} {env : En} {u : Cup}, I k env u → (∀ i (h : i < xs.length) env u, I (k + i) env u → ∃ env' u', f xs[i] env u = .next env' u' ∧ I (k + i + 1) env' u') → ∃ env' u', forLoop f xs env u = .next env' u' ∧ I (k + xs.length) env' u'
  | [], k, env, u, h0, _ => ⟨env, u, rfl, h0⟩
  | x :: xs, k, env, u, h0, h => by
    obtain ⟨e1, u1, q1, i1⟩ := h 0 (by simp) env u h0
    obtain ⟨e2, u2, q2, i2⟩ := for_inv (I := I) (xs := xs) (k := k + 1) (env := e1) (u := u1) i1 fun i hi env u hI => by
      have z := h (i + 1) (by simp; omega) env u (by rw [show k + (i + 1) = k + 1 + i by omega]; exact hI)
      simpa [show k + (i + 1) + 1 = k + 1 + i + 1 by omega] using z
    refine ⟨e2, u2, ?_, by rw [List.length_cons, show k + (xs.length + 1) = k + 1 + xs.length by omega]; exact i2⟩
    simp only [forLoop]
    have q1 : f x env u = .next e1 u1 := q1
    rw [q1]
    exact q2
theorem for_inv0 {f : D → En → Cup → SR} (I : Nat → En → Cup → Prop) {xs : List D} {env : En} {u : Cup} (h0 : I 0 env u) (h : ∀ i (h : i < xs.length) env u, I i env u → ∃ env' u', f xs[i] env u = .next env' u' ∧ I (i + 1) env' u') : ∃ env' u', forLoop f xs env u = .next env' u' ∧ I xs.length env' u' := by
  have z := for_inv (f := f) I (xs := xs) (k := 0) (env := env) (u := u) h0 (by simpa using h)
  simpa using z
/-- a while loop with a number that falls -/
theorem while_inv {c : En → Cup → Re D} {b : En → Cup → SR} (I : Nat → En → Cup → Prop) (J : En → Cup → Prop) (h : ∀ m env u, I m env u → (∃ u', c env u = .ok (.bl false) u' ∧ J env u') ∨ (∃ u1 env' u' m', c env u = .ok (.bl true) u1 ∧ b env u1 = .next env' u' ∧ I m' env' u' ∧ m' < m)) :
    ∀ {k m : Nat} {env : En} {u : Cup}, I m env u → m < k → ∃ env' u', whileLoop c b k env u = .next env' u' ∧ J env' u'
  | 0, _, _, _, _, hk => by omega
  | k + 1, m, env, u, hI, hk => by
    rcases h m env u hI with ⟨u', e, j⟩ | ⟨u1, env1, u2, m2, e1, e2, i2, lt⟩
    · exact ⟨env, u', by simp only [whileLoop, e, ofRe], j⟩
    · obtain ⟨env3, u3, e3, j3⟩ := while_inv I J h (k := k) (m := m2) i2 (by omega)
      exact ⟨env3, u3, by simp only [whileLoop, e1, ofRe, e2, e3], j3⟩
theorem evS_forP {wd : Words} {nw : Str} {call : Nat → List D → Cup → Re D} {tg : Tg} {k x i : Nat} {body : List Sx} {env : En} {u : Cup} : evS wd nw call (.forP tg k x i body) env u = match env[i]?, env[x]? with
    | some (some (true, .lst xs)), some (some (_, t)) => match xs[xs.length - 1]? with
      | some d => match popAt t d with
        | some y => ofRe (call k [y] u) fun r u1 => match r.items with
          | some ys => forLoop (turnS wd nw call tg body) ys (freeze [x] (env.set i (some (true, .lst xs.dropLast)))) u1
          | none => .bad
        | none => .bad
      | none => .bad
    | _, _ => .bad := by
  rw [evS]
  rfl
theorem forLoop_app {f : D → En → Cup → SR} : ∀ {xs ys : List D} {env : En} {u : Cup}, forLoop f (xs ++ ys) env u = match forLoop f xs env u with | .next e1 u1 => forLoop f ys e1 u1 | .ret d u1 => .ret d u1 | .exc k u1 => .exc k u1 | .bad => .bad
  | [], ys, env, u => rfl
  | x :: xs, ys, env, u => by
    rw [List.cons_append, forLoop, forLoop]
    cases f x env u with
    | next e1 u1 => exact forLoop_app
    | ret _ _ => rfl
    | exc _ _ => rfl
    | bad => rfl
theorem cut_take {α : Type} {xs : List α} {k : Nat} (h : k ≤ xs.length) : cutG xs none (some (k : Int)) = xs.take k := by
  unfold cutG
  rw [HT.sIx_nat, HT.sIx_none, Nat.min_eq_left h]
  simp
theorem cut_drop {α : Type} {xs : List α} {k : Nat} (h : k ≤ xs.length) : cutG xs (some (k : Int)) none = xs.drop k := by
  unfold cutG
  rw [HT.sIx_nat, HT.sIx_none, Nat.min_eq_left h]
  exact List.take_of_length_le (by rw [List.length_drop]; omega)
theorem frz_not {is : List Nat} {i : Nat} {s : Sl} (h : is.contains i = false) : frz is i s = s := by
  cases s with
  | none => rfl
  | some q => obtain ⟨b, d⟩ := q; have e : frz is i (some (b, d)) = some (b && !is.contains i, d) := rfl; rw [e, h]; simp
theorem frz_some {is : List Nat} {i : Nat} {b : Bool} {d : D} : frz is i (some (b, d)) = some (b && !is.contains i, d) := rfl
theorem flats_int {l : List Int} : D.flats (l.map D.int) = true := by
  induction l with
  | nil => rfl
  | cons a l ih => simp [D.flats, D.flat, ih]
theorem flats_str {l : List Str} : D.flats (l.map D.str) = true := by
  induction l with
  | nil => rfl
  | cons a l ih => simp [D.flats, D.flat, ih]
theorem flats_app2 {l m : List D} : D.flats (l ++ m) = (D.flats l && D.flats m) := by
  induction l with
  | nil => rfl
  | cons a l ih => simp [D.flats, ih, Bool.and_assoc]
theorem flats_map {α : Type} {f : α → D} {l : List α} (h : ∀ a ∈ l, (f a).flat = true) : D.flats (l.map f) = true := by
  induction l with
  | nil => rfl
  | cons a l ih => simp [D.flats, h a List.mem_cons_self, ih fun b hb => h b (List.mem_cons_of_mem _ hb)]
theorem in_two {a x y : Str} : cmpV .In (.str a) (.tup [.str x, .str y]) = some (.bl (decide (a = x ∨ a = y))) := by
  have e := @inV_str a [x, y]
  simp only [List.map_cons, List.map_nil, List.mem_cons, List.not_mem_nil, or_false] at e
  simp [cmpV, inS, D.sc, scs, e]
theorem rng_ok {wd : Words} {nw : Str} {call : Nat → List D → Cup → Re D} {a : Ex} {env : En} {u u1 : Cup} {n : Int} (h : evE wd nw call a env u = .ok (.int n) u1) (h0 : 0 ≤ n) (h1 : n ≤ 1000000) : evE wd nw call (.rng a) env u = .ok (.lst (range n)) u1 := by
  have rg : -4611686018427387904 ≤ n ∧ n < 4611686018427387904 := ⟨by omega, by omega⟩
  rw [evE, h]
  simp only [Re.bind]
  exact if_pos rg
section
variable {wd : Words} {nw : Str} {call : Nat → List D → Cup → Re D} {s : Sx} {ss : List Sx} {env e1 : En} {u u1 : Cup}
theorem evSs_next (h : evS wd nw call s env u = .next e1 u1) : evSs wd nw call (s :: ss) env u = evSs wd nw call ss e1 u1 := by rw [evSs, h]
theorem evSs_ret {d : D} (h : evS wd nw call s env u = .ret d u1) : evSs wd nw call (s :: ss) env u = .ret d u1 := by rw [evSs, h]
theorem evSs_exc {k : Nat} (h : evS wd nw call s env u = .exc k u1) : evSs wd nw call (s :: ss) env u = .exc k u1 := by rw [evSs, h]
theorem evSs_nil : evSs wd nw call [] env u = .next env u := by rw [evSs]
theorem evSs_one (h : evS wd nw call s env u = .next e1 u1) : evSs wd nw call [s] env u = .next e1 u1 := by rw [evSs, h]; exact evSs_nil
theorem run_ret {P : List FD} {n k : Nat} {ds : List D} {d : D} (fd : FD) (h : P[k]? = some fd) (hl : ds.length = fd.np) (e : evSs wd nw (Ev.run wd nw P n) fd.body (Ev.start ds fd.nn) u = .ret d u1) : Ev.run wd nw P (n + 1) k ds u = .ok d u1 := by
  rw [run_succ fd h hl, e]
  rfl
theorem run_non {P : List FD} {n k : Nat} {ds : List D} (fd : FD) (h : P[k]? = some fd) (hl : ds.length = fd.np) (e : evSs wd nw (Ev.run wd nw P n) fd.body (Ev.start ds fd.nn) u = .next e1 u1) : Ev.run wd nw P (n + 1) k ds u = .ok .non u1 := by
  rw [run_succ fd h hl, e]
  rfl
theorem for_next {tg : Tg} {src : Ex} {body : List Sx} {d : D} {xs : List D} {r : SR} (h : evE wd nw call src env u = .ok d u1) (hd : d.items = some xs) (hz : freeze (src.fz d) env = e1) (hf : forLoop (turnS wd nw call tg body) xs e1 u1 = r) : evS wd nw call (.for_ tg src body) env u = r := by
  rw [evS_for, h]
  simp only [ofRe, hd]
  rw [hz, hf]
theorem set_fresh {i : Nat} {e : Ex} {d : D} (h : evE wd nw call e env u = .ok d u1) (hf : e.fresh = true) (ho : d.ownable = true) : evS wd nw call (.set i e) env u = .next (env.set i (some (true, d))) u1 := by
  rw [evS, h]
  simp [ofRe, after, hf, ho]
theorem set_flat {i : Nat} {e : Ex} {d : D} (h : evE wd nw call e env u = .ok d u1) (hd : d.flat = true) (hf : e.fresh = false) : evS wd nw call (.set i e) env u = .next (env.set i (some (false, d))) u1 := by
  rw [evS, h]
  simp [ofRe, after, hd, hf]
theorem set_held {i : Nat} {e : Ex} {d : D} (h : evE wd nw call e env u = .ok d u1) (hd : d.flat = false) (hf : e.fresh = false) : evS wd nw call (.set i e) env u = .next ((freeze e.fv env).set i (some (false, d))) u1 := by
  rw [evS, h]
  simp [ofRe, after, hd, hf]
theorem par_of {is : List Nat} {es : List Ex} {ds : List D} (h : evL wd nw call es env u = .ok ds u1) (hc : (es.zip ds).all (fun p => (p.1.fresh && p.2.ownable) || p.2.flat || unowned env p.1.fv) = true) : evS wd nw call (.par is es) env u = .next (setPar is es ds env) u1 := by
  rw [evS, h]
  exact if_pos hc
theorem evL_one {e : Ex} {d : D} (h : evE wd nw call e env u = .ok d u1) : evL wd nw call [e] env u = .ok [d] u1 := by
  simp only [evL, h, Re.bind]
theorem evL_two {e f : Ex} {d d2 : D} {u2 : Cup} (h : evE wd nw call e env u = .ok d u1) (h2 : evE wd nw call f env u1 = .ok d2 u2) : evL wd nw call [e, f] env u = .ok [d, d2] u2 := by
  simp only [evL, h, h2, Re.bind]
theorem sl_hi {a hi : Ex} {x y : D} {k : Int} {u2 : Cup} (ha : evE wd nw call a env u = .ok x u1) (hh : evE wd nw call hi env u1 = .ok (.int k) u2) (hn : isNonC hi = false) (hs : slV x none (some (some k)) = some y) : evE wd nw call (.sl a (.c .non) hi) env u = .ok y u2 := by
  have p1 : partE (.c .non) .non = some none := rfl
  have p2 : partE hi (.int k) = some (some k) := by unfold partE; rw [hn]; rfl
  rw [evE, ha]
  simp only [Re.bind]
  rw [evE]
  simp only [Re.bind, p1]
  rw [hh]
  simp only [Re.bind, p2, hs, lift]
theorem own_int {l : List Int} : D.ownable (.lst (l.map .int)) = true := by
  have h : D.flats (l.map .int) = true := flats_int
  simp [D.ownable, D.isBox, D.its, h]
theorem own_str {l : List Str} : D.ownable (.lst (l.map .str)) = true := by
  have h : D.flats (l.map .str) = true := flats_str
  simp [D.ownable, D.isBox, D.its, h]
theorem own_map {α : Type} {f : α → D} {l : List α} (h : ∀ a ∈ l, (f a).flat = true) : D.ownable (.lst (l.map f)) = true := by
  have h : D.flats (l.map f) = true := flats_map h
  simp [D.ownable, D.isBox, D.its, h]
theorem lc_val {own : List Nat} {tg : Tg} {src elt : Ex} {ifs : List Ex} {x : D} {xs ys : List D} {u2 : Cup} (h : evE wd nw call src env u = .ok x u1) (hx : x.items = some xs) (hl : xs.length ≤ 16777216) (e : lcLoop (turnE wd nw call own tg ifs elt env) xs u1 = .ok ys u2) : evE wd nw call (.lc own tg src ifs elt) env u = .ok (.lst ys) u2 := by
  rw [evE_lc, h]
  simp only [Re.bind, hx]
  rw [e]
  simp only [Re.bind]
  rw [if_pos (show xs.length ≤ big from hl)]
  rfl
theorem lcF_val {own : List Nat} {tg : Tg} {elt : Ex} {d y : D} (h : tg.put d (wipeE env own) = some e1) (he : evE wd nw call elt e1 u = .ok y u1) : turnE wd nw call own tg [] elt env d u = .ok (some y) u1 := by
  unfold turnE
  rw [h]
  simp only [evB, Re.bind]
  rw [he]
theorem lcF_if {own : List Nat} {tg : Tg} {c elt : Ex} {d y : D} {b : Bool} (h : tg.put d (wipeE env own) = some e1) (hc : evE wd nw call c e1 u = .ok (.bl b) u) (he : b = true → evE wd nw call elt e1 u = .ok y u) : turnE wd nw call own tg [c] elt env d u = .ok (if b then some y else none) u := by
  unfold turnE
  rw [h]
  simp only [evB, hc, Re.bind]
  cases b with
  | false => rfl
  | true => simp only [he rfl]; rfl
theorem turn_of {tg : Tg} {body : List Sx} {x : D} {r : SR} (h : tg.put x env = some e1) (hb : evSs wd nw call body e1 u = r) : turnS wd nw call tg body x env u = r := by
  unfold turnS
  rw [h]
  exact hb
end
/-! ### dicts -/
theorem hasK_inr {a : Str} {ns : List Str} : hasK (ns.map Sum.inr) (.inr a) = decide (a ∈ ns) := by
  unfold hasK
  rw [List.any_map]
  induction ns with
  | nil => rfl
  | cons b ns ih =>
    rw [List.any_cons, ih]
    by_cases h : b = a
    · subst h
      simp
    · have h' : ¬ a = b := fun e => h e.symm
      simp [h, h']
theorem hasK_inl {a : Int} {ns : List Int} : hasK (ns.map Sum.inl) (.inl a) = decide (a ∈ ns) := by
  unfold hasK
  rw [List.any_map]
  induction ns with
  | nil => rfl
  | cons b ns ih =>
    rw [List.any_cons, ih]
    by_cases h : b = a
    · subst h
      simp
    · have h' : ¬ a = b := fun e => h e.symm
      simp [h, h']
theorem lkK_inr {α : Type} : ∀ {ns : List Str} {xs : List α} {i : Nat} {a : Str}, ns.Nodup → ns.length = xs.length → ns[i]? = some a → lkK (ns.map Sum.inr) xs (.inr a) = xs[i]?
  | [], _, i, a, _, _, h => by simp at h
  | b :: ns, [], i, a, _, hl, _ => by simp at hl
  | b :: ns, x :: xs, 0, a, nd, hl, h => by
    simp at h
    subst h
    simp [lkK]
  | b :: ns, x :: xs, i + 1, a, nd, hl, h => by
    rw [List.nodup_cons] at nd
    have h' : ns[i]? = some a := by simpa using h
    have ne : b ≠ a := fun e => nd.1 (e ▸ List.mem_of_getElem? h')
    simp [lkK, ne, lkK_inr nd.2 (by simpa using hl) h']
theorem putKs_new {ks : List L2.Key} {j : L2.Key} (h : hasK ks j = false) : putKs ks j = ks ++ [j] := by simp [putKs, h]
theorem putDs_new {α : Type} {ks : List L2.Key} {xs : List α} {j : L2.Key} {y : α} (h : hasK ks j = false) : putDs ks xs j y = xs ++ [y] := by simp [putDs, h]
/-- a dict made of unlike keys -/
theorem merge_nodup {α : Type} : ∀ {ns ms : List Str} {xs ys : List α}, (ms ++ ns).Nodup → ns.length = ys.length → mergeD (ms.map Sum.inr) xs (ns.map Sum.inr) ys = ((ms ++ ns).map Sum.inr, xs ++ ys)
  | [], ms, xs, [], _, _ => by simp [mergeD]
  | [], ms, xs, y :: ys, _, h => by simp at h
  | n :: ns, ms, xs, [], _, h => by simp at h
  | n :: ns, ms, xs, y :: ys, nd, h => by
    have hn : n ∉ ms := by
      rw [List.nodup_append] at nd
      exact fun q => nd.2.2 n q n List.mem_cons_self rfl
    have hk : hasK (ms.map Sum.inr) (.inr n) = false := by rw [hasK_inr]; simp [hn]
    rw [List.map_cons, mergeD, putKs_new hk, putDs_new hk]
    have z := merge_nodup (ns := ns) (ms := ms ++ [n]) (xs := xs ++ [y]) (ys := ys) (by simpa using nd) (by simpa using h)
    rw [show (List.map Sum.inr ms ++ [Sum.inr n] : List L2.Key) = (ms ++ [n]).map Sum.inr by simp, z]
    simp
theorem pairsK_str {α : Type} {f : α → Str} {g : α → D} : ∀ {l : List α}, pairsK (l.map fun a => .tup [.str (f a), g a]) = some (l.map fun a => Sum.inr (f a), l.map g)
  | [] => rfl
  | a :: l => by simp [pairsK, D.key, pairsK_str (l := l)]
theorem dict_ok {ns : List Str} {ys : List D} (nd : ns.Nodup) (hl : ns.length = ys.length) : biV .dict [.lst ((ns.zip ys).map fun p => .tup [.str p.1, p.2])] = some (.dic (ns.map .inr) ys) := by
  have e := pairsK_str (f := fun p : Str × D => p.1) (g := fun p : Str × D => p.2) (l := ns.zip ys)
  have e1 : (ns.zip ys).map (fun p => (Sum.inr p.1 : L2.Key)) = ns.map .inr := by
    rw [show (fun p : Str × D => (Sum.inr p.1 : L2.Key)) = Sum.inr ∘ Prod.fst from rfl, ← List.map_map, List.map_fst_zip (by omega)]
  have e2 : (ns.zip ys).map (fun p => p.2) = ys := by
    rw [show (fun p : Str × D => p.2) = Prod.snd from rfl, List.map_snd_zip (by omega)]
  rw [e1, e2] at e
  have m := merge_nodup (ns := ns) (ms := []) (xs := []) (ys := ys) (by simpa using nd) hl
  simp only [List.map_nil, List.nil_append] at m
  simp only [biV, e, m]
theorem dictG {α : Type} {l : List α} {f : α → Str} {g : α → D} (nd : (l.map f).Nodup) : biV .dict [.lst (l.map fun a => .tup [.str (f a), g a])] = some (.dic ((l.map f).map .inr) (l.map g)) := by
  have m := merge_nodup (ns := l.map f) (ms := []) (xs := []) (ys := l.map g) (by simpa using nd) (by simp)
  simp only [List.map_nil, List.nil_append, List.map_map] at m
  simp only [biV, pairsK_str, List.map_map]
  rw [show (fun a => (Sum.inr (f a) : L2.Key)) = Sum.inr ∘ f from rfl, m]
theorem pairs_idx {α : Type} {e : α → D} : ∀ {l : List α} {k : Nat}, pairs k (l.map e) = (l.zipIdx k).map fun p => .tup [.int (p.2 : Int), e p.1]
  | [], _ => rfl
  | a :: l, k => by
    rw [List.map_cons, pairs, pairs_idx (l := l), List.zipIdx_cons, List.map_cons]
/-! ### sorting -/
theorem sorted_eq {l m : List Int} (hl : l.Pairwise (· ≤ ·)) (hm : m.Pairwise (· ≤ ·)) (p : List.Perm l m) : l = m := List.Perm.eq_of_pairwise (fun a b _ _ h1 h2 => Int.le_antisymm h1 h2) hl hm p
theorem sortI_of {l m : List Int} (p : List.Perm l m) (hm : m.Pairwise (· ≤ ·)) : sortI l = m := sorted_eq (sortI_sorted _) hm ((sortI_perm _).trans p)
theorem sortI_congr {l m : List Int} (p : List.Perm l m) : sortI l = sortI m := sorted_eq (sortI_sorted _) (sortI_sorted _) ((sortI_perm _).trans (p.trans (sortI_perm _).symm))
theorem sortI_nodup {l m : List Int} (dl : l.Nodup) (dm : m.Nodup) (h : ∀ a, a ∈ l ↔ a ∈ m) : sortI l = sortI m := sortI_congr ((List.perm_ext_iff_of_nodup dl dm).mpr h)
theorem sortL_int {l : List Int} : sortL (l.map .int) = some (.lst ((sortI l).map .int)) := by simp [sortL, allI_int]
theorem keysI_inl {l : List Int} : keysI (l.map .inl) = some l := by
  induction l with
  | nil => rfl
  | cons i l ih => simp [keysI, ih]
theorem sortK_int {l : List Int} (h : l.length < 64) : sortK (l.map .inl) = some (.lst ((sortI l).map .int)) := by simp [sortK, keysI_inl, h]
end Ev

open PySem
namespace K09
open Ev
-- classes: 0 FigureError 1 InvalidNumber 2 InvalidFigure 3 InvalidName 4 InvalidNumbers 5 NotNow 6 Unlucky 7 TooMany
/-! 0: is_whole(value, low, high); slots 0 value 1 low 2 high; statement 11 -/
def n_d_is_whole : List Str := [PySem.Str.ofString "value", PySem.Str.ofString "low", PySem.Str.ofString "high"]
def d_is_whole : FD := ⟨3, 3, [(.ret (.bop .And [(.isi (.v 0) .int), (.not (.isi (.v 0) .bool)), (.ch .LtE .LtE (.v 1) (.v 0) (.v 2))]))]⟩
/-! 1: need_whole(value, low, high); slots 0 value 1 low 2 high; statement 12 -/
def n_d_need_whole : List Str := [PySem.Str.ofString "value", PySem.Str.ofString "low", PySem.Str.ofString "high"]
def d_need_whole : FD := ⟨3, 3, [(.ite (.not (.call 0 [(.v 0), (.v 1), (.v 2)])) [(.raise 1)] [])]⟩
/-! 2: is_tuple_of(value, low, high); slots 0 value 1 low 2 high; statement 13 -/
def n_d_is_tuple_of : List Str := [PySem.Str.ofString "value", PySem.Str.ofString "low", PySem.Str.ofString "high"]
def d_is_tuple_of : FD := ⟨3, 3, [(.ret (.bop .And [(.isi (.v 0) .tuple), (.ch .LtE .LtE (.v 1) (.bi .len [(.v 0)]) (.v 2))]))]⟩
/-! 3: is_fraction(value); slots 0 value 1 part; statement 16 -/
def n_d_is_fraction : List Str := [PySem.Str.ofString "value", PySem.Str.ofString "part"]
def d_is_fraction : FD := ⟨1, 2, [(.ite (.not (.call 2 [(.v 0), (.c (.int 2)), (.c (.int 2))])) [(.ret (.c (.bl false)))] []),
    (.ite (.not (.bi .all [(.lc [1] (.n 1) (.v 0) [] (.bop .And [(.isi (.v 1) .int), (.not (.isi (.v 1) .bool))]))])) [(.ret (.c (.bl false)))] []),
    (.ret (.bop .And [(.cmp .GtE (.ix (.v 0) (.c (.int 1))) (.c (.int 1))), (.cmp .Eq (.bi .gcd [(.ix (.v 0) (.c (.int 0))), (.ix (.v 0) (.c (.int 1)))]) (.c (.int 1)))]))]⟩
/-! 4: is_portion(value); slots 0 value; statement 17 -/
def n_d_is_portion : List Str := [PySem.Str.ofString "value"]
def d_is_portion : FD := ⟨1, 1, [(.ret (.bop .And [(.call 3 [(.v 0)]), (.call 0 [(.ix (.v 0) (.c (.int 0))), (.neg (.g (PySem.Str.ofString "FAR") (.int 1000000))), (.g (PySem.Str.ofString "FAR") (.int 1000000))]), (.cmp .LtE (.ix (.v 0) (.c (.int 1))) (.g (PySem.Str.ofString "FAR") (.int 1000000)))]))]⟩
/-! 5: is_name(value); slots 0 value; statement 26 -/
def n_d_is_name : List Str := [PySem.Str.ofString "value"]
def d_is_name : FD := ⟨1, 1, [(.ret (.bop .And [(.isi (.v 0) .str), (.cmp .Eq (.bi .len [(.v 0)]) (.c (.int 1))), (.cmp .In (.v 0) (.g (PySem.Str.ofString "LETTERS") (.str (PySem.Str.ofString "ABCDEFGHIJKLMNOPQRSTUVWXYZ"))))]))]⟩
/-! 6: args_of(kind); slots 0 kind; statement 27 -/
def n_d_args_of : List Str := [PySem.Str.ofString "kind"]
def d_args_of : FD := ⟨1, 1, [(.ret (.kget (PySem.Str.ofString "KINDS") [(PySem.Str.ofString "free", (.int 0)), (PySem.Str.ofString "on line", (.int 2)), (PySem.Str.ofString "on ring", (.int 2)), (PySem.Str.ofString "middle", (.int 2)), (PySem.Str.ofString "meet", (.int 4)), (PySem.Str.ofString "foot", (.int 3)), (PySem.Str.ofString "mirror", (.int 3))] [(.v 0), (.kget (PySem.Str.ofString "MORE") [(PySem.Str.ofString "past", (.int 3)), (PySem.Str.ofString "turned", (.int 2)), (PySem.Str.ofString "second", (.int 3)), (PySem.Str.ofString "round", (.int 3)), (PySem.Str.ofString "rings", (.int 3))] [(.v 0)])]))]⟩
/-! 7: near(value); slots 0 value; statement 28 -/
def n_d_near : List Str := [PySem.Str.ofString "value"]
def d_near : FD := ⟨1, 1, [(.ret (.bop .And [(.call 4 [(.v 0)]), (.cmp .LtE (.bi .abs [(.ix (.v 0) (.c (.int 0)))]) (.g (PySem.Str.ofString "NEAR") (.int 1000))), (.cmp .LtE (.ix (.v 0) (.c (.int 1))) (.g (PySem.Str.ofString "NEAR") (.int 1000)))]))]⟩
/-! 8: is_step(value, names); slots 0 value 1 names 2 many 3 part 4 name; statement 29 -/
def n_d_is_step : List Str := [PySem.Str.ofString "value", PySem.Str.ofString "names", PySem.Str.ofString "many", PySem.Str.ofString "part", PySem.Str.ofString "name"]
def d_is_step : FD := ⟨2, 5, [(.ite (.bop .Or [(.not (.call 2 [(.v 0), (.c (.int 3)), (.c (.int 3))])), (.not (.call 5 [(.ix (.v 0) (.c (.int 0)))])), (.cmp .In (.ix (.v 0) (.c (.int 0))) (.v 1)), (.not (.isi (.ix (.v 0) (.c (.int 1))) .str))]) [(.ret (.c (.bl false)))] []),
    (.ite (.cmp .Eq (.ix (.v 0) (.c (.int 1))) (.c (.str (PySem.Str.ofString "fixed")))) [(.ret (.bop .And [(.call 2 [(.ix (.v 0) (.c (.int 2))), (.c (.int 2)), (.c (.int 2))]), (.bi .all [(.lc [3] (.n 3) (.ix (.v 0) (.c (.int 2))) [] (.call 7 [(.v 3)]))])]))] []),
    (.set 2 (.call 6 [(.ix (.v 0) (.c (.int 1)))])),
    (.ite (.bop .Or [(.cmp .Is (.v 2) (.c .non)), (.not (.call 2 [(.ix (.v 0) (.c (.int 2))), (.v 2), (.v 2)]))]) [(.ret (.c (.bl false)))] []),
    (.ret (.bi .all [(.lc [4] (.n 4) (.ix (.v 0) (.c (.int 2))) [] (.bop .And [(.call 5 [(.v 4)]), (.cmp .In (.v 4) (.v 1))]))]))]⟩
/-! 9: is_figure(value); slots 0 value 1 names 2 step; statement 30 -/
def n_d_is_figure : List Str := [PySem.Str.ofString "value", PySem.Str.ofString "names", PySem.Str.ofString "step"]
def d_is_figure : FD := ⟨1, 3, [(.ite (.not (.call 2 [(.v 0), (.c (.int 1)), (.g (PySem.Str.ofString "STEPS") (.int 16))])) [(.ret (.c (.bl false)))] []),
    (.set 1 (.lst [])),
    (.for_ (.n 2) (.v 0) [(.ite (.not (.call 8 [(.v 2), (.v 1)])) [(.ret (.c (.bl false)))] []),
    (.app 1 (.ix (.v 2) (.c (.int 0))))]),
    (.ret (.cmp .LtE (.call 10 [(.v 0)]) (.g (PySem.Str.ofString "FREE") (.int 8))))]⟩
/-! 10: count_free(figure); slots 0 figure 1 name 2 kind 3 args; statement 31 -/
def n_d_count_free : List Str := [PySem.Str.ofString "figure", PySem.Str.ofString "name", PySem.Str.ofString "kind", PySem.Str.ofString "args"]
def d_count_free : FD := ⟨1, 4, [(.ret (.bi .sum [(.lc [1, 2, 3] (.t [(.n 1), (.n 2), (.n 3)]) (.v 0) [] (.kget (PySem.Str.ofString "NUMBERS") [(PySem.Str.ofString "free", (.int 2)), (PySem.Str.ofString "on line", (.int 1)), (PySem.Str.ofString "on ring", (.int 1))] [(.v 2), (.c (.int 0))]))]))]⟩
/-! 11: need_figure(value); slots 0 value; statement 32 -/
def n_d_need_figure : List Str := [PySem.Str.ofString "value"]
def d_need_figure : FD := ⟨1, 1, [(.ite (.not (.call 9 [(.v 0)])) [(.raise 2)] [])]⟩
/-! 12: name_list(figure); slots 0 figure 1 name 2 kind 3 args; statement 33 -/
def n_d_name_list : List Str := [PySem.Str.ofString "figure", PySem.Str.ofString "name", PySem.Str.ofString "kind", PySem.Str.ofString "args"]
def d_name_list : FD := ⟨1, 4, [(.ret (.lc [1, 2, 3] (.t [(.n 1), (.n 2), (.n 3)]) (.v 0) [] (.v 1)))]⟩
/-! 13: first_number(figure, at); slots 0 figure 1 at; statement 34 -/
def n_d_first_number : List Str := [PySem.Str.ofString "figure", PySem.Str.ofString "at"]
def d_first_number : FD := ⟨2, 2, [(.ret (.call 10 [(.sl (.v 0) (.c .non) (.v 1))]))]⟩
/-! 14: step_of(figure, name); slots 0 figure 1 name 2 names; statement 35 -/
def n_d_step_of : List Str := [PySem.Str.ofString "figure", PySem.Str.ofString "name", PySem.Str.ofString "names"]
def d_step_of : FD := ⟨2, 3, [(.exp (.call 11 [(.v 0)])),
    (.set 2 (.call 12 [(.v 0)])),
    (.ite (.bop .Or [(.not (.call 5 [(.v 1)])), (.cmp .NotIn (.v 1) (.v 2))]) [(.raise 3)] []),
    (.ret (.idx (.v 2) (.v 1)))]⟩
/-! 15: points_of_step(step); slots 0 step; statement 37 -/
def n_d_points_of_step : List Str := [PySem.Str.ofString "step"]
def d_points_of_step : FD := ⟨1, 1, [(.ret (.ite (.cmp .Eq (.ix (.v 0) (.c (.int 1))) (.c (.str (PySem.Str.ofString "fixed")))) (.tup []) (.ix (.v 0) (.c (.int 2)))))]⟩
/-! 16: ahead_of(figure, at); slots 0 figure 1 at 2 places 3 found 4 line 5 name 6 own 7 step; statement 38 -/
def n_d_ahead_of : List Str := [PySem.Str.ofString "figure", PySem.Str.ofString "at", PySem.Str.ofString "places", PySem.Str.ofString "found", PySem.Str.ofString "line", PySem.Str.ofString "name", PySem.Str.ofString "own", PySem.Str.ofString "step"]
def d_ahead_of : FD := ⟨2, 8, [(.set 2 (.bi .dict [(.lc [6, 7] (.t [(.n 6), (.n 7)]) (.enu (.v 0)) [] (.tup [(.ix (.v 7) (.c (.int 0))), (.v 6)]))])),
    (.par [3, 4] [(.dic [(.v 1), (.c (.bl true))]), (.lst [(.v 1)])]),
    (.while_ (.cmp .NotEq (.v 4) (.lst [])) [(.forP (.n 5) 15 0 4 [(.ite (.cmp .NotIn (.ix (.v 2) (.v 5)) (.v 3)) [(.sub 3 (.ix (.v 2) (.v 5)) (.c (.bl true))),
    (.app 4 (.ix (.v 2) (.v 5)))] [])])]),
    (.ret (.bi .sorted [(.v 3)]))]⟩
/-! 17: signs_of(figure, at); slots 0 figure 1 at 2 first; statement 39 -/
def n_d_signs_of : List Str := [PySem.Str.ofString "figure", PySem.Str.ofString "at", PySem.Str.ofString "first"]
def d_signs_of : FD := ⟨2, 3, [(.set 2 (.call 13 [(.v 0), (.v 1)])),
    (.ret (.lrg (.v 2) (.bin .Add (.v 2) (.kget (PySem.Str.ofString "NUMBERS") [(PySem.Str.ofString "free", (.int 2)), (PySem.Str.ofString "on line", (.int 1)), (PySem.Str.ofString "on ring", (.int 1))] [(.ix (.ix (.v 0) (.v 1)) (.c (.int 1))), (.c (.int 0))]))))]⟩
/-! 18: own_signs(figure, name); slots 0 figure 1 name; statement 40 -/
def n_d_own_signs : List Str := [PySem.Str.ofString "figure", PySem.Str.ofString "name"]
def d_own_signs : FD := ⟨2, 2, [(.ret (.bi .tuple [(.call 17 [(.v 0), (.call 14 [(.v 0), (.v 1)])])]))]⟩
/-! 19: signs_behind(figure, name); slots 0 figure 1 name 2 found 3 at; statement 41 -/
def n_d_signs_behind : List Str := [PySem.Str.ofString "figure", PySem.Str.ofString "name", PySem.Str.ofString "found", PySem.Str.ofString "at"]
def d_signs_behind : FD := ⟨2, 4, [(.set 2 (.lst [])),
    (.for_ (.n 3) (.call 16 [(.v 0), (.call 14 [(.v 0), (.v 1)])]) [(.set 2 (.bin .Add (.v 2) (.call 17 [(.v 0), (.v 3)])))]),
    (.ret (.bi .tuple [(.v 2)]))]⟩
/-! 20: steps_ahead(figure, name); slots 0 figure 1 name; statement 42 -/
def n_d_steps_ahead : List Str := [PySem.Str.ofString "figure", PySem.Str.ofString "name"]
def d_steps_ahead : FD := ⟨2, 2, [(.ret (.bi .tuple [(.call 16 [(.v 0), (.call 14 [(.v 0), (.v 1)])])]))]⟩
/-! 21: step_of_sign(figure, at); slots 0 figure 1 at 2 own 3 step 4 signs; statement 43 -/
def n_d_step_of_sign : List Str := [PySem.Str.ofString "figure", PySem.Str.ofString "at", PySem.Str.ofString "own", PySem.Str.ofString "step", PySem.Str.ofString "signs"]
def d_step_of_sign : FD := ⟨2, 5, [(.exp (.call 11 [(.v 0)])),
    (.exp (.call 1 [(.v 1), (.c (.int 0)), (.bin .Sub (.call 10 [(.v 0)]) (.c (.int 1)))])),
    (.for_ (.t [(.n 2), (.n 3)]) (.enu (.v 0)) [(.set 4 (.call 17 [(.v 0), (.v 2)])),
    (.ite (.cmp .In (.v 1) (.v 4)) [(.ret (.tup [(.ix (.v 3) (.c (.int 0))), (.ite (.cmp .Eq (.bi .len [(.v 4)]) (.c (.int 1))) (.c (.str (PySem.Str.ofString "t"))) (.ix (.c (.str (PySem.Str.ofString "xy"))) (.idx (.v 4) (.v 1))))]))] [])]),
    (.ret (.c .non))]⟩
/-! 22: _law_roll(cup, many); slots 0 cup 1 many 2 found; statement 46 -/
def n_d_law_roll : List Str := [PySem.Str.ofString "cup", PySem.Str.ofString "many", PySem.Str.ofString "found"]
def d_law_roll : FD := ⟨2, 3, [(.ite (.cmp .Gt (.ix (.v 0) (.c (.int 0))) (.c (.int 0))) [(.set 2 (.bin .Mod (.bi .int [(.ix (.v 0) (.c (.int 0)))]) (.v 1))),
    (.sub 0 (.c (.int 0)) (.bin .FloorDiv (.ix (.v 0) (.c (.int 0))) (.v 1))),
    (.ret (.v 2))] []),
    (.sub 0 (.c (.int 1)) (.bin .Mod (.bi .int [(.bin .Add (.bin .Mult (.ix (.v 0) (.c (.int 1))) (.c (.int 137))) (.c (.int 2441)))]) (.c (.int 99833)))),
    (.ret (.bin .Mod (.bi .int [(.bin .FloorDiv (.ix (.v 0) (.c (.int 1))) (.c (.int 47)))]) (.v 1)))]⟩
/-! 23: _law_some(cup, things); slots 0 cup 1 things; statement 47 -/
def n_d_law_some : List Str := [PySem.Str.ofString "cup", PySem.Str.ofString "things"]
def d_law_some : FD := ⟨2, 2, [(.ret (.ix (.v 1) (.call 22 [(.v 0), (.bi .len [(.v 1)])])))]⟩
/-! 24: _law_sort(value); slots 0 value; statement 48 -/
def n_d_law_sort : List Str := [PySem.Str.ofString "value"]
def d_law_sort : FD := ⟨1, 1, [(.ite (.bop .Or [(.cmp .Is (.v 0) (.c .non)), (.isi (.v 0) .bool)]) [(.ret (.ite (.cmp .Is (.v 0) (.c .non)) (.c (.int 0)) (.c (.int 1))))] []),
    (.ite (.bop .Or [(.isi (.v 0) .int), (.isi (.v 0) .str)]) [(.ret (.ite (.isi (.v 0) .int) (.c (.int 2)) (.c (.int 3))))] []),
    (.ret (.ite (.isi (.v 0) .tuple) (.c (.int 4)) (.ite (.isi (.v 0) .list) (.c (.int 5)) (.c (.int 6)))))]⟩
/-! 25: _law_like(one, other); slots 0 one 1 other 2 sort 3 first 4 second; statement 49 -/
def n_d_law_like : List Str := [PySem.Str.ofString "one", PySem.Str.ofString "other", PySem.Str.ofString "sort", PySem.Str.ofString "first", PySem.Str.ofString "second"]
def d_law_like : FD := ⟨2, 5, [(.set 2 (.call 24 [(.v 1)])),
    (.ite (.bop .Or [(.cmp .NotEq (.call 24 [(.v 0)]) (.v 2)), (.cmp .Eq (.v 2) (.c (.int 6)))]) [(.ret (.c (.bl false)))] []),
    (.ite (.cmp .In (.v 2) (.tup [(.c (.int 4)), (.c (.int 5))])) [(.ret (.bop .And [(.cmp .Eq (.bi .len [(.v 0)]) (.bi .len [(.v 1)])), (.cmp .Eq (.lc [3, 4] (.t [(.n 3), (.n 4)]) (.zip (.v 0) (.v 1)) [(.not (.call 25 [(.v 3), (.v 4)]))] (.c (.int 1))) (.lst []))]))] []),
    (.ret (.cmp .Eq (.v 0) (.v 1)))]⟩
/-! 26: _law_free(step); slots 0 step; statement 50 -/
def n_d_law_free : List Str := [PySem.Str.ofString "step"]
def d_law_free : FD := ⟨1, 1, [(.ret (.ite (.cmp .Eq (.ix (.v 0) (.c (.int 1))) (.c (.str (PySem.Str.ofString "free")))) (.c (.int 2)) (.ite (.cmp .In (.ix (.v 0) (.c (.int 1))) (.tup [(.c (.str (PySem.Str.ofString "on line"))), (.c (.str (PySem.Str.ofString "on ring")))])) (.c (.int 1)) (.c (.int 0)))))]⟩
/-! 27: _law_bounds(figure); slots 0 figure 1 found 2 places 3 sign 4 at 5 name 6 kind 7 args 8 often 9 own 10 turn 11 arg 12 many 13 part 14 far; statement 51 -/
def n_d_law_bounds : List Str := [PySem.Str.ofString "figure", PySem.Str.ofString "found", PySem.Str.ofString "places", PySem.Str.ofString "sign", PySem.Str.ofString "at", PySem.Str.ofString "name", PySem.Str.ofString "kind", PySem.Str.ofString "args", PySem.Str.ofString "often", PySem.Str.ofString "own", PySem.Str.ofString "turn", PySem.Str.ofString "arg", PySem.Str.ofString "many", PySem.Str.ofString "part", PySem.Str.ofString "far"]
def d_law_bounds : FD := ⟨1, 15, [(.par [1, 2, 3] [(.lst []), (.dic []), (.c (.int 0))]),
    (.for_ (.t [(.n 4), (.t [(.n 5), (.n 6), (.n 7)])]) (.enu (.v 0)) [(.set 8 (.dget (.dic [(.c (.str (PySem.Str.ofString "foot"))), (.tup [(.c (.int 1)), (.c (.int 3)), (.c (.int 2))]), (.c (.str (PySem.Str.ofString "mirror"))), (.tup [(.c (.int 1)), (.c (.int 3)), (.c (.int 2))]), (.c (.str (PySem.Str.ofString "second"))), (.tup [(.c (.int 3)), (.c (.int 2)), (.c (.int 1))]), (.c (.str (PySem.Str.ofString "rings"))), (.tup [(.c (.int 3)), (.c (.int 2)), (.c (.int 1))]), (.c (.str (PySem.Str.ofString "round"))), (.tup [(.c (.int 3)), (.c (.int 2)), (.c (.int 2))])]) [(.v 6), (.tup [(.c (.int 1)), (.c (.int 1)), (.c (.int 1)), (.c (.int 1))])])),
    (.set 9 (.bin .Mult (.lst [(.c (.int 0))]) (.c (.int 8)))),
    (.for_ (.n 10) (.rng (.call 26 [(.tup [(.v 5), (.v 6), (.v 7)])])) [(.sub 9 (.v 3) (.ite (.cmp .Eq (.v 6) (.c (.str (PySem.Str.ofString "on ring")))) (.c (.int 2)) (.c (.int 1)))),
    (.set 3 (.bin .Add (.v 3) (.c (.int 1))))]),
    (.for_ (.t [(.n 11), (.n 12)]) (.zip (.ite (.cmp .NotEq (.v 6) (.c (.str (PySem.Str.ofString "fixed")))) (.v 7) (.tup [])) (.v 8)) [(.set 9 (.lc [13, 14] (.t [(.n 13), (.n 14)]) (.zip (.v 9) (.ix (.v 1) (.ix (.v 2) (.v 11)))) [] (.bin .Add (.v 13) (.bin .Mult (.v 12) (.v 14)))))]),
    (.sub 2 (.v 5) (.v 4)),
    (.app 1 (.bi .tuple [(.v 9)]))]),
    (.ret (.v 1))]⟩
/-! 28: _law_any_figure(cup); slots 0 cup 1 fixed 2 way 3 figure 4 third 5 many 6 name 7 kind 8 names 9 args 10 step 11 own; statement 52 -/
def n_d_law_any_figure : List Str := [PySem.Str.ofString "cup", PySem.Str.ofString "fixed", PySem.Str.ofString "way", PySem.Str.ofString "figure", PySem.Str.ofString "third", PySem.Str.ofString "many", PySem.Str.ofString "name", PySem.Str.ofString "kind", PySem.Str.ofString "names", PySem.Str.ofString "args", PySem.Str.ofString "step", PySem.Str.ofString "own"]
def d_law_any_figure : FD := ⟨1, 12, [(.set 1 (.lst [(.tup [(.tup [(.c (.int 0)), (.c (.int 1))]), (.tup [(.c (.int 0)), (.c (.int 1))])]), (.tup [(.tup [(.c (.int 1)), (.c (.int 1))]), (.tup [(.c (.int 0)), (.c (.int 1))])]), (.tup [(.tup [(.c (.int 2)), (.c (.int 1))]), (.tup [(.neg (.c (.int 1))), (.c (.int 1))])]), (.tup [(.tup [(.c (.int 1)), (.c (.int 2))]), (.tup [(.c (.int 3)), (.c (.int 1))])])])),
    (.set 2 (.call 22 [(.v 0), (.c (.int 3))])),
    (.set 3 (.lst [(.ite (.cmp .Eq (.v 2) (.c (.int 0))) (.tup [(.c (.str (PySem.Str.ofString "A"))), (.c (.str (PySem.Str.ofString "free"))), (.tup [])]) (.tup [(.c (.str (PySem.Str.ofString "A"))), (.c (.str (PySem.Str.ofString "fixed"))), (.call 23 [(.v 0), (.v 1)])]))])),
    (.app 3 (.ite (.cmp .Lt (.v 2) (.c (.int 2))) (.tup [(.c (.str (PySem.Str.ofString "B"))), (.c (.str (PySem.Str.ofString "fixed"))), (.call 23 [(.v 0), (.v 1)])]) (.tup [(.c (.str (PySem.Str.ofString "B"))), (.c (.str (PySem.Str.ofString "free"))), (.tup [])]))),
    (.set 4 (.lst [(.tup [(.c (.str (PySem.Str.ofString "C"))), (.c (.str (PySem.Str.ofString "on line"))), (.tup [(.c (.str (PySem.Str.ofString "A"))), (.c (.str (PySem.Str.ofString "B")))])]), (.tup [(.c (.str (PySem.Str.ofString "C"))), (.c (.str (PySem.Str.ofString "on ring"))), (.tup [(.c (.str (PySem.Str.ofString "A"))), (.c (.str (PySem.Str.ofString "B")))])]), (.tup [(.c (.str (PySem.Str.ofString "C"))), (.c (.str (PySem.Str.ofString "fixed"))), (.call 23 [(.v 0), (.v 1)])])])),
    (.app 3 (.call 23 [(.v 0), (.bin .Add (.v 4) (.lst [(.ite (.cmp .Eq (.v 2) (.c (.int 1))) (.tup [(.c (.str (PySem.Str.ofString "C"))), (.c (.str (PySem.Str.ofString "free"))), (.tup [])]) (.tup [(.c (.str (PySem.Str.ofString "C"))), (.c (.str (PySem.Str.ofString "on line"))), (.tup [(.c (.str (PySem.Str.ofString "B"))), (.c (.str (PySem.Str.ofString "A")))])]))]))])),
    (.set 5 (.dic [(.c (.str (PySem.Str.ofString "middle"))), (.c (.int 2)), (.c (.str (PySem.Str.ofString "past"))), (.c (.int 3)), (.c (.str (PySem.Str.ofString "turned"))), (.c (.int 2)), (.c (.str (PySem.Str.ofString "meet"))), (.c (.int 4)), (.c (.str (PySem.Str.ofString "foot"))), (.c (.int 3)), (.c (.str (PySem.Str.ofString "mirror"))), (.c (.int 3)), (.c (.str (PySem.Str.ofString "second"))), (.c (.int 3)), (.c (.str (PySem.Str.ofString "round"))), (.c (.int 3)), (.c (.str (PySem.Str.ofString "rings"))), (.c (.int 3)), (.c (.str (PySem.Str.ofString "on line"))), (.c (.int 2))])),
    (.for_ (.n 6) (.sl (.tup [(.c (.str (PySem.Str.ofString "D"))), (.c (.str (PySem.Str.ofString "E"))), (.c (.str (PySem.Str.ofString "F")))]) (.c .non) (.bin .Add (.c (.int 1)) (.call 22 [(.v 0), (.c (.int 3))]))) [(.set 7 (.call 23 [(.v 0), (.bi .sorted [(.v 5)])])),
    (.set 8 (.lc [10] (.n 10) (.v 3) [] (.ix (.v 10) (.c (.int 0))))),
    (.set 9 (.bi .tuple [(.lc [11] (.n 11) (.rng (.ix (.v 5) (.v 7))) [] (.ix (.v 8) (.call 22 [(.v 0), (.bi .len [(.v 8)])])))])),
    (.ite (.cmp .Gt (.call 22 [(.v 0), (.c (.int 3))]) (.c (.int 0))) [(.set 9 (.bi .tuple [(.sl (.lc [11] (.n 11) (.call 29 [(.v 0), (.bi .len [(.v 8)])]) [] (.ix (.v 8) (.v 11))) (.c .non) (.ix (.v 5) (.v 7)))]))] []),
    (.ite (.bop .And [(.cmp .Eq (.bi .len [(.v 9)]) (.ix (.v 5) (.v 7))), (.bop .Or [(.cmp .NotEq (.v 7) (.c (.str (PySem.Str.ofString "on line")))), (.cmp .Lt (.bi .sum [(.lc [10] (.n 10) (.v 3) [] (.call 26 [(.v 10)]))]) (.c (.int 3)))])]) [(.app 3 (.tup [(.v 6), (.v 7), (.v 9)]))] [])]),
    (.while_ (.cmp .Gt (.bi .max [(.lc [11] (.n 11) (.call 27 [(.v 3)]) [] (.bi .max [(.v 11)]))]) (.c (.int 6))) [(.set 3 (.sl (.v 3) (.c .non) (.neg (.c (.int 1)))))]),
    (.ret (.bi .tuple [(.v 3)]))]⟩
/-! 29: _law_turned(cup, many); slots 0 cup 1 many 2 left 3 found 4 turn 5 own 6 other; statement 53 -/
def n_d_law_turned : List Str := [PySem.Str.ofString "cup", PySem.Str.ofString "many", PySem.Str.ofString "left", PySem.Str.ofString "found", PySem.Str.ofString "turn", PySem.Str.ofString "own", PySem.Str.ofString "other"]
def d_law_turned : FD := ⟨2, 7, [(.par [2, 3] [(.lrg (.c (.int 0)) (.v 1)), (.lst [])]),
    (.for_ (.n 4) (.rng (.v 1)) [(.set 5 (.ix (.v 2) (.call 22 [(.v 0), (.bi .len [(.v 2)])]))),
    (.app 3 (.v 5)),
    (.set 2 (.lc [6] (.n 6) (.v 2) [(.cmp .NotEq (.v 6) (.v 5))] (.v 6)))]),
    (.ret (.v 3))]⟩
/-! 30: _law_ahead(figure, at); slots 0 figure 1 at 2 places 3 found 4 turn 5 own 6 name 7 step; statement 54 -/
def n_d_law_ahead : List Str := [PySem.Str.ofString "figure", PySem.Str.ofString "at", PySem.Str.ofString "places", PySem.Str.ofString "found", PySem.Str.ofString "turn", PySem.Str.ofString "own", PySem.Str.ofString "name", PySem.Str.ofString "step"]
def d_law_ahead : FD := ⟨2, 8, [(.set 2 (.bi .dict [(.lc [5, 7] (.t [(.n 5), (.n 7)]) (.enu (.v 0)) [] (.tup [(.ix (.v 7) (.c (.int 0))), (.v 5)]))])),
    (.set 3 (.lst [(.v 1)])),
    (.for_ (.n 4) (.rng (.bi .len [(.v 0)])) [(.for_ (.n 5) (.bi .list [(.v 3)]) [(.for_ (.n 6) (.ite (.cmp .NotEq (.ix (.ix (.v 0) (.v 5)) (.c (.int 1))) (.c (.str (PySem.Str.ofString "fixed")))) (.ix (.ix (.v 0) (.v 5)) (.c (.int 2))) (.tup [])) [(.ite (.cmp .NotIn (.ix (.v 2) (.v 6)) (.v 3)) [(.app 3 (.ix (.v 2) (.v 6)))] [])])])]),
    (.ret (.bi .sorted [(.v 3)]))]⟩
/-! 31: _law_signs(figure, at); slots 0 figure 1 at 2 first 3 step 4 own; statement 55 -/
def n_d_law_signs : List Str := [PySem.Str.ofString "figure", PySem.Str.ofString "at", PySem.Str.ofString "first", PySem.Str.ofString "step", PySem.Str.ofString "own"]
def d_law_signs : FD := ⟨2, 5, [(.set 2 (.bi .sum [(.lc [3] (.n 3) (.sl (.v 0) (.c .non) (.v 1)) [] (.call 26 [(.v 3)]))])),
    (.ret (.lc [4] (.n 4) (.rng (.call 26 [(.ix (.v 0) (.v 1))])) [] (.bin .Add (.v 2) (.v 4))))]⟩
/-! 32: _law_odd_figures(); slots 0 a 1 b 2 z 3 odds 4 at; statement 56 -/
def n_d_law_odd_figures : List Str := [PySem.Str.ofString "a", PySem.Str.ofString "b", PySem.Str.ofString "z", PySem.Str.ofString "odds", PySem.Str.ofString "at"]
def d_law_odd_figures : FD := ⟨0, 5, [(.asg [(.n 0), (.n 1), (.n 2)] (.tup [(.tup [(.c (.str (PySem.Str.ofString "A"))), (.c (.str (PySem.Str.ofString "free"))), (.tup [])]), (.tup [(.c (.str (PySem.Str.ofString "B"))), (.c (.str (PySem.Str.ofString "free"))), (.tup [])]), (.tup [(.tup [(.c (.int 0)), (.c (.int 1))]), (.tup [(.c (.int 0)), (.c (.int 1))])])])),
    (.set 3 (.lst [(.c .non), (.tup []), (.lst [(.v 0)]), (.tup [(.tup [(.c (.str (PySem.Str.ofString "a"))), (.c (.str (PySem.Str.ofString "free"))), (.tup [])])]), (.tup [(.tup [(.c (.str (PySem.Str.ofString "AB"))), (.c (.str (PySem.Str.ofString "free"))), (.tup [])])]), (.tup [(.v 0), (.v 0)]), (.tup [(.tup [(.c (.str (PySem.Str.ofString "A"))), (.c (.str (PySem.Str.ofString "free"))), (.tup [(.c (.int 1))])])]), (.tup [(.tup [(.c (.str (PySem.Str.ofString "A"))), (.c (.str (PySem.Str.ofString "fixed"))), (.tup [(.tup [(.c (.int 0)), (.c (.int 1))])])])]), (.tup [(.tup [(.c (.str (PySem.Str.ofString "A"))), (.c (.str (PySem.Str.ofString "fixed"))), (.tup [(.tup [(.c (.int 2)), (.c (.int 4))]), (.tup [(.c (.int 0)), (.c (.int 1))])])])])])),
    (.set 3 (.bin .Add (.v 3) (.lst [(.tup [(.tup [(.c (.str (PySem.Str.ofString "A"))), (.c (.str (PySem.Str.ofString "fixed"))), (.tup [(.tup [(.c (.int 1001)), (.c (.int 1))]), (.tup [(.c (.int 0)), (.c (.int 1))])])])]), (.tup [(.v 0), (.tup [(.c (.str (PySem.Str.ofString "B"))), (.c (.str (PySem.Str.ofString "middle"))), (.tup [(.c (.str (PySem.Str.ofString "A")))])])]), (.tup [(.v 0), (.tup [(.c (.str (PySem.Str.ofString "B"))), (.c (.str (PySem.Str.ofString "middle"))), (.tup [(.c (.str (PySem.Str.ofString "A"))), (.c (.str (PySem.Str.ofString "B")))])])]), (.tup [(.tup [(.c (.str (PySem.Str.ofString "A"))), (.c (.str (PySem.Str.ofString "Free"))), (.tup [])])]), (.tup [(.v 0), (.tup [(.c (.str (PySem.Str.ofString "B"))), (.c (.str (PySem.Str.ofString "middle"))), (.lst [(.c (.str (PySem.Str.ofString "A"))), (.c (.str (PySem.Str.ofString "A")))])])])]))),
    (.ret (.bin .Add (.v 3) (.lst [(.bi .tuple [(.lc [4] (.n 4) (.rng (.c (.int 5))) [] (.tup [(.ix (.c (.str (PySem.Str.ofString "ABCDE"))) (.v 4)), (.c (.str (PySem.Str.ofString "free"))), (.tup [])]))]), (.bi .tuple [(.lc [4] (.n 4) (.rng (.c (.int 17))) [] (.tup [(.ix (.c (.str (PySem.Str.ofString "ABCDEFGHIJKLMNOPQ"))) (.v 4)), (.c (.str (PySem.Str.ofString "fixed"))), (.v 2)]))]), (.tup [(.v 0), (.tup [(.c (.str (PySem.Str.ofString "B"))), (.c (.str (PySem.Str.ofString "on line"))), (.tup [])])]), (.c (.str (PySem.Str.ofString "A"))), (.c (.int 7))])))]⟩
/-! 33: _law_given(); slots 0 z 1 o 2 f 3 g 4 r; statement 58 -/
def n_d_law_given : List Str := [PySem.Str.ofString "z", PySem.Str.ofString "o", PySem.Str.ofString "f", PySem.Str.ofString "g", PySem.Str.ofString "r"]
def d_law_given : FD := ⟨0, 5, [(.asg [(.n 0), (.n 1)] (.tup [(.tup [(.c (.int 0)), (.c (.int 1))]), (.tup [(.c (.int 1)), (.c (.int 1))])])),
    (.set 2 (.tup [(.tup [(.c (.str (PySem.Str.ofString "A"))), (.c (.str (PySem.Str.ofString "fixed"))), (.tup [(.v 0), (.v 0)])]), (.tup [(.c (.str (PySem.Str.ofString "B"))), (.c (.str (PySem.Str.ofString "fixed"))), (.tup [(.v 1), (.v 0)])]), (.tup [(.c (.str (PySem.Str.ofString "C"))), (.c (.str (PySem.Str.ofString "free"))), (.tup [])]), (.tup [(.c (.str (PySem.Str.ofString "M"))), (.c (.str (PySem.Str.ofString "middle"))), (.tup [(.c (.str (PySem.Str.ofString "A"))), (.c (.str (PySem.Str.ofString "C")))])]), (.tup [(.c (.str (PySem.Str.ofString "H"))), (.c (.str (PySem.Str.ofString "foot"))), (.tup [(.c (.str (PySem.Str.ofString "C"))), (.c (.str (PySem.Str.ofString "A"))), (.c (.str (PySem.Str.ofString "B")))])]), (.tup [(.c (.str (PySem.Str.ofString "S"))), (.c (.str (PySem.Str.ofString "meet"))), (.tup [(.c (.str (PySem.Str.ofString "A"))), (.c (.str (PySem.Str.ofString "C"))), (.c (.str (PySem.Str.ofString "B"))), (.c (.str (PySem.Str.ofString "M")))])])])),
    (.set 3 (.bin .Add (.sl (.v 2) (.c .non) (.c (.int 2))) (.tup [(.tup [(.c (.str (PySem.Str.ofString "X"))), (.c (.str (PySem.Str.ofString "meet"))), (.tup [(.c (.str (PySem.Str.ofString "A"))), (.c (.str (PySem.Str.ofString "B"))), (.c (.str (PySem.Str.ofString "B"))), (.c (.str (PySem.Str.ofString "A")))])])]))),
    (.set 4 (.bin .Add (.sl (.v 2) (.c .non) (.c (.int 2))) (.tup [(.tup [(.c (.str (PySem.Str.ofString "P"))), (.c (.str (PySem.Str.ofString "on ring"))), (.tup [(.c (.str (PySem.Str.ofString "A"))), (.c (.str (PySem.Str.ofString "B")))])]), (.tup [(.c (.str (PySem.Str.ofString "K"))), (.c (.str (PySem.Str.ofString "middle"))), (.tup [(.c (.str (PySem.Str.ofString "A"))), (.c (.str (PySem.Str.ofString "B")))])]), (.tup [(.c (.str (PySem.Str.ofString "Q"))), (.c (.str (PySem.Str.ofString "turned"))), (.tup [(.c (.str (PySem.Str.ofString "A"))), (.c (.str (PySem.Str.ofString "P")))])])]))),
    (.ret (.tup [(.v 2), (.v 3), (.v 4)]))]⟩
/-! 34: _law_right(figure); slots 0 figure 1 every 2 at 3 name 4 kind 5 args 6 ahead 7 signs 8 behind 9 own 10 words 11 sign 12 due 13 word; statement 59 -/
def n_d_law_right : List Str := [PySem.Str.ofString "figure", PySem.Str.ofString "every", PySem.Str.ofString "at", PySem.Str.ofString "name", PySem.Str.ofString "kind", PySem.Str.ofString "args", PySem.Str.ofString "ahead", PySem.Str.ofString "signs", PySem.Str.ofString "behind", PySem.Str.ofString "own", PySem.Str.ofString "words", PySem.Str.ofString "sign", PySem.Str.ofString "due", PySem.Str.ofString "word"]
def d_law_right : FD := ⟨1, 14, [(.set 1 (.lst [])),
    (.for_ (.t [(.n 2), (.t [(.n 3), (.n 4), (.n 5)])]) (.enu (.v 0)) [(.par [6, 7] [(.call 30 [(.v 0), (.v 2)]), (.call 31 [(.v 0), (.v 2)])]),
    (.set 8 (.lst [])),
    (.for_ (.n 9) (.v 6) [(.set 8 (.bin .Add (.v 8) (.call 31 [(.v 0), (.v 9)])))]),
    (.ite (.not (.call 25 [(.lst [(.call 18 [(.v 0), (.v 3)]), (.call 20 [(.v 0), (.v 3)]), (.call 19 [(.v 0), (.v 3)])]), (.lst [(.bi .tuple [(.v 7)]), (.bi .tuple [(.v 6)]), (.bi .tuple [(.bi .sorted [(.v 8)])])])])) [(.ret (.c (.bl false)))] []),
    (.set 10 (.ite (.cmp .Eq (.bi .len [(.v 7)]) (.c (.int 2))) (.lst [(.c (.str (PySem.Str.ofString "x"))), (.c (.str (PySem.Str.ofString "y")))]) (.bin .Mult (.lst [(.c (.str (PySem.Str.ofString "t")))]) (.bi .len [(.v 7)])))),
    (.set 1 (.bin .Add (.v 1) (.lc [13] (.n 13) (.v 10) [] (.tup [(.v 3), (.v 13)]))))]),
    (.for_ (.t [(.n 11), (.n 12)]) (.enu (.v 1)) [(.ite (.not (.call 25 [(.call 21 [(.v 0), (.v 11)]), (.v 12)])) [(.ret (.c (.bl false)))] [])]),
    (.ret (.cmp .Eq (.err (.call 21 [(.v 0), (.bi .len [(.v 1)])])) (.c (.str (PySem.Str.ofString "number")))))]⟩
/-! 35: _law_great_right(cup); slots 0 cup 1 k 2 figure 3 told 4 due 5 at; statement 60 -/
def n_d_law_great_right : List Str := [PySem.Str.ofString "cup", PySem.Str.ofString "k", PySem.Str.ofString "figure", PySem.Str.ofString "told", PySem.Str.ofString "due", PySem.Str.ofString "at"]
def d_law_great_right : FD := ⟨1, 6, [(.set 1 (.call 22 [(.v 0), (.c (.int 4))])),
    (.set 2 (.bi .tuple [(.bin .Add (.lc [5] (.n 5) (.rng (.c (.int 4))) [] (.tup [(.ix (.c (.str (PySem.Str.ofString "ABCD"))) (.v 5)), (.c (.str (PySem.Str.ofString "free"))), (.tup [])])) (.lc [5] (.n 5) (.rng (.c (.int 12))) [] (.tup [(.ix (.c (.str (PySem.Str.ofString "EFGHIJKLMNOP"))) (.v 5)), (.c (.str (PySem.Str.ofString "middle"))), (.tup [(.ix (.c (.str (PySem.Str.ofString "ABCDEFGHIJKLMNO"))) (.bin .Add (.v 5) (.c (.int 3)))), (.ix (.c (.str (PySem.Str.ofString "ABCD"))) (.v 1))])])))])),
    (.set 3 (.lst [(.call 18 [(.v 2), (.ix (.c (.str (PySem.Str.ofString "ABCD"))) (.v 1))]), (.call 21 [(.v 2), (.c (.int 7))]), (.call 19 [(.v 2), (.c (.str (PySem.Str.ofString "P")))]), (.bi .len [(.call 20 [(.v 2), (.c (.str (PySem.Str.ofString "P")))])]), (.call 20 [(.v 2), (.c (.str (PySem.Str.ofString "E")))])])),
    (.set 4 (.bin .Add (.tup [(.bin .Mult (.c (.int 2)) (.v 1)), (.bin .Add (.bin .Mult (.c (.int 2)) (.v 1)) (.c (.int 1)))]) (.ite (.cmp .Eq (.v 1) (.c (.int 3))) (.tup []) (.tup [(.c (.int 6)), (.c (.int 7))])))),
    (.ret (.call 25 [(.v 3), (.lst [(.tup [(.bin .Mult (.c (.int 2)) (.v 1)), (.bin .Add (.bin .Mult (.c (.int 2)) (.v 1)) (.c (.int 1)))]), (.tup [(.c (.str (PySem.Str.ofString "D"))), (.c (.str (PySem.Str.ofString "y")))]), (.v 4), (.ite (.cmp .Eq (.v 1) (.c (.int 3))) (.c (.int 13)) (.c (.int 14))), (.bi .tuple [(.sset (.lst [(.v 1), (.c (.int 3)), (.c (.int 4))]))])])]))]⟩
/-! 36: _law_errors_right(); slots 0 words 1 odds 2 f 3 odd 4 call; statement 61 -/
def n_d_law_errors_right : List Str := [PySem.Str.ofString "words", PySem.Str.ofString "odds", PySem.Str.ofString "f", PySem.Str.ofString "odd", PySem.Str.ofString "call"]
def d_law_errors_right : FD := ⟨0, 5, [(.asg [(.n 0), (.n 1), (.n 2)] (.tup [(.lst []), (.call 32 []), (.ix (.call 33 []) (.c (.int 0)))])),
    (.for_ (.n 3) (.v 1) [(.set 0 (.bin .Add (.v 0) (.lc [4] (.n 4) (.tup [(.f 18), (.f 19), (.f 20), (.f 21)]) [] (.err (.callv 4 [(.v 3), (.c .non)])))))]),
    (.for_ (.n 3) (.tup [(.c .non), (.c (.str (PySem.Str.ofString ""))), (.c (.str (PySem.Str.ofString "X"))), (.c (.str (PySem.Str.ofString "a"))), (.c (.str (PySem.Str.ofString "AB"))), (.c (.int 0)), (.tup [(.c (.str (PySem.Str.ofString "A")))])]) [(.set 0 (.bin .Add (.v 0) (.lc [4] (.n 4) (.tup [(.f 18), (.f 19), (.f 20)]) [] (.err (.callv 4 [(.v 2), (.v 3)])))))]),
    (.set 0 (.bin .Add (.v 0) (.lc [3] (.n 3) (.tup [(.c .non), (.neg (.c (.int 1))), (.c (.int 2)), (.c (.bl true)), (.c (.str (PySem.Str.ofString "0"))), (.tup [(.c (.int 0))])]) [] (.err (.call 21 [(.v 2), (.v 3)]))))),
    (.ret (.cmp .Eq (.v 0) (.bin .Add (.bin .Add (.bin .Mult (.lst [(.c (.str (PySem.Str.ofString "figure")))]) (.bin .Mult (.c (.int 4)) (.bi .len [(.v 1)]))) (.bin .Mult (.lst [(.c (.str (PySem.Str.ofString "name")))]) (.c (.int 21)))) (.bin .Mult (.lst [(.c (.str (PySem.Str.ofString "number")))]) (.c (.int 6))))))]⟩
def prog : List FD := [d_is_whole, d_need_whole, d_is_tuple_of, d_is_fraction, d_is_portion, d_is_name, d_args_of, d_near, d_is_step, d_is_figure, d_count_free, d_need_figure, d_name_list, d_first_number, d_step_of, d_points_of_step, d_ahead_of, d_signs_of, d_own_signs, d_signs_behind, d_steps_ahead, d_step_of_sign, d_law_roll, d_law_some, d_law_sort, d_law_like, d_law_free, d_law_bounds, d_law_any_figure, d_law_turned, d_law_ahead, d_law_signs, d_law_odd_figures, d_law_given, d_law_right, d_law_great_right, d_law_errors_right]
def fnames : List Str := [PySem.Str.ofString "is_whole", PySem.Str.ofString "need_whole", PySem.Str.ofString "is_tuple_of", PySem.Str.ofString "is_fraction", PySem.Str.ofString "is_portion", PySem.Str.ofString "is_name", PySem.Str.ofString "args_of", PySem.Str.ofString "near", PySem.Str.ofString "is_step", PySem.Str.ofString "is_figure", PySem.Str.ofString "count_free", PySem.Str.ofString "need_figure", PySem.Str.ofString "name_list", PySem.Str.ofString "first_number", PySem.Str.ofString "step_of", PySem.Str.ofString "points_of_step", PySem.Str.ofString "ahead_of", PySem.Str.ofString "signs_of", PySem.Str.ofString "own_signs", PySem.Str.ofString "signs_behind", PySem.Str.ofString "steps_ahead", PySem.Str.ofString "step_of_sign", PySem.Str.ofString "_law_roll", PySem.Str.ofString "_law_some", PySem.Str.ofString "_law_sort", PySem.Str.ofString "_law_like", PySem.Str.ofString "_law_free", PySem.Str.ofString "_law_bounds", PySem.Str.ofString "_law_any_figure", PySem.Str.ofString "_law_turned", PySem.Str.ofString "_law_ahead", PySem.Str.ofString "_law_signs", PySem.Str.ofString "_law_odd_figures", PySem.Str.ofString "_law_given", PySem.Str.ofString "_law_right", PySem.Str.ofString "_law_great_right", PySem.Str.ofString "_law_errors_right"]
def cnames : List Str := [PySem.Str.ofString "FigureError", PySem.Str.ofString "InvalidNumber", PySem.Str.ofString "InvalidFigure", PySem.Str.ofString "InvalidName", PySem.Str.ofString "InvalidNumbers", PySem.Str.ofString "NotNow", PySem.Str.ofString "Unlucky", PySem.Str.ofString "TooMany"]
def places : List Nat := [11, 12, 13, 16, 17, 26, 27, 28, 29, 30, 31, 32, 33, 34, 35, 37, 38, 39, 40, 41, 42, 43, 46, 47, 48, 49, 50, 51, 52, 53, 54, 55, 56, 58, 59, 60, 61]
def nameses : List (List Str) := [n_d_is_whole, n_d_need_whole, n_d_is_tuple_of, n_d_is_fraction, n_d_is_portion, n_d_is_name, n_d_args_of, n_d_near, n_d_is_step, n_d_is_figure, n_d_count_free, n_d_need_figure, n_d_name_list, n_d_first_number, n_d_step_of, n_d_points_of_step, n_d_ahead_of, n_d_signs_of, n_d_own_signs, n_d_signs_behind, n_d_steps_ahead, n_d_step_of_sign, n_d_law_roll, n_d_law_some, n_d_law_sort, n_d_law_like, n_d_law_free, n_d_law_bounds, n_d_law_any_figure, n_d_law_turned, n_d_law_ahead, n_d_law_signs, n_d_law_odd_figures, n_d_law_given, n_d_law_right, n_d_law_great_right, n_d_law_errors_right]
def sub (j k : Nat) : Option Bool := (([[true, false, false, false, false, false, false, false], [true, true, false, false, false, false, false, false], [true, false, true, false, false, false, false, false], [true, false, false, true, false, false, false, false], [true, false, false, false, true, false, false, false], [true, false, false, false, false, true, false, false], [true, false, false, false, false, false, true, false], [true, false, false, false, false, false, false, true]] : List (List Bool)).getD j [])[k]?
def consts : List (Str × D) := [(PySem.Str.ofString "FAR", (.int 1000000)), (PySem.Str.ofString "STEPS", (.int 16)), (PySem.Str.ofString "FREE", (.int 8)), (PySem.Str.ofString "NEAR", (.int 1000)), (PySem.Str.ofString "LETTERS", (.str (PySem.Str.ofString "ABCDEFGHIJKLMNOPQRSTUVWXYZ")))]
def kds : List (Str × List (Str × D)) := [(PySem.Str.ofString "KINDS", [(PySem.Str.ofString "free", (.int 0)), (PySem.Str.ofString "on line", (.int 2)), (PySem.Str.ofString "on ring", (.int 2)), (PySem.Str.ofString "middle", (.int 2)), (PySem.Str.ofString "meet", (.int 4)), (PySem.Str.ofString "foot", (.int 3)), (PySem.Str.ofString "mirror", (.int 3))]), (PySem.Str.ofString "MORE", [(PySem.Str.ofString "past", (.int 3)), (PySem.Str.ofString "turned", (.int 2)), (PySem.Str.ofString "second", (.int 3)), (PySem.Str.ofString "round", (.int 3)), (PySem.Str.ofString "rings", (.int 3))]), (PySem.Str.ofString "NUMBERS", [(PySem.Str.ofString "free", (.int 2)), (PySem.Str.ofString "on line", (.int 1)), (PySem.Str.ofString "on ring", (.int 1))])]
def n_err : List Str := [PySem.Str.ofString "call", PySem.Str.ofString "e", PySem.Str.ofString "some", PySem.Str.ofString "word", PySem.Str.ofString "fits"]
def s_err : List Sx := [(.set 2 (.lst [(.tup [(.c (.str (PySem.Str.ofString "figure"))), (.isE 1 [(0, false), (1, false), (2, true), (3, false), (4, false), (5, false), (6, false), (7, false)] 2)]), (.tup [(.c (.str (PySem.Str.ofString "name"))), (.isE 1 [(0, false), (1, false), (2, false), (3, true), (4, false), (5, false), (6, false), (7, false)] 3)]), (.tup [(.c (.str (PySem.Str.ofString "number"))), (.isE 1 [(0, false), (1, true), (2, false), (3, false), (4, false), (5, false), (6, false), (7, false)] 1)]), (.tup [(.c (.str (PySem.Str.ofString "numbers"))), (.isE 1 [(0, false), (1, false), (2, false), (3, false), (4, true), (5, false), (6, false), (7, false)] 4)])])),
    (.set 2 (.bin .Add (.v 2) (.lst [(.tup [(.c (.str (PySem.Str.ofString "now"))), (.isE 1 [(0, false), (1, false), (2, false), (3, false), (4, false), (5, true), (6, false), (7, false)] 5)]), (.tup [(.bin .Add (.c (.str (PySem.Str.ofString "unlucky "))) (.bi .str [(.ite (.isE 1 [(0, false), (1, false), (2, false), (3, false), (4, false), (5, false), (6, true), (7, false)] 6) .never (.c (.int 0)))])), (.isE 1 [(0, false), (1, false), (2, false), (3, false), (4, false), (5, false), (6, true), (7, false)] 6)])]))),
    (.app 2 (.tup [(.bin .Add (.c (.str (PySem.Str.ofString "many "))) (.bi .str [(.ite (.isE 1 [(0, false), (1, false), (2, false), (3, false), (4, false), (5, false), (6, false), (7, true)] 7) .never (.c (.int 0)))])), (.isE 1 [(0, false), (1, false), (2, false), (3, false), (4, false), (5, false), (6, false), (7, true)] 7)])),
    (.ret (.join (.c (.str (PySem.Str.ofString " "))) (.lc [3, 4] (.t [(.n 3), (.n 4)]) (.v 2) [(.v 4)] (.v 3))))]
def n_law : List Str := [PySem.Str.ofString "script", PySem.Str.ofString "cup", PySem.Str.ofString "turn", PySem.Str.ofString "f", PySem.Str.ofString "g", PySem.Str.ofString "r", PySem.Str.ofString "told", PySem.Str.ofString "two", PySem.Str.ofString "due"]
def s_law : List Sx := [(.for_ (.n 2) (.rng (.c (.int 12))) [(.ite (.not (.call 34 [(.call 28 [(.v 1)])])) [(.ret (.c (.bl false)))] [])]),
    (.asg [(.n 3), (.n 4), (.n 5)] (.call 33 [])),
    (.set 6 (.lst [(.call 18 [(.v 3), (.c (.str (PySem.Str.ofString "C")))]), (.call 18 [(.v 3), (.c (.str (PySem.Str.ofString "M")))]), (.call 19 [(.v 3), (.c (.str (PySem.Str.ofString "H")))]), (.call 19 [(.v 3), (.c (.str (PySem.Str.ofString "B")))]), (.call 20 [(.v 3), (.c (.str (PySem.Str.ofString "S")))])])),
    (.set 6 (.bin .Add (.v 6) (.lst [(.call 20 [(.v 3), (.c (.str (PySem.Str.ofString "A")))]), (.call 21 [(.v 3), (.c (.int 1))]), (.call 21 [(.v 5), (.c (.int 0))]), (.call 18 [(.v 5), (.c (.str (PySem.Str.ofString "P")))]), (.call 19 [(.v 5), (.c (.str (PySem.Str.ofString "Q")))])]))),
    (.set 7 (.tup [(.tup [(.c (.str (PySem.Str.ofString "A"))), (.c (.str (PySem.Str.ofString "free"))), (.tup [])]), (.tup [(.c (.str (PySem.Str.ofString "B"))), (.c (.str (PySem.Str.ofString "on line"))), (.tup [(.c (.str (PySem.Str.ofString "A"))), (.c (.str (PySem.Str.ofString "A")))])]), (.tup [(.c (.str (PySem.Str.ofString "C"))), (.c (.str (PySem.Str.ofString "free"))), (.tup [])]), (.tup [(.c (.str (PySem.Str.ofString "D"))), (.c (.str (PySem.Str.ofString "foot"))), (.tup [(.c (.str (PySem.Str.ofString "C"))), (.c (.str (PySem.Str.ofString "A"))), (.c (.str (PySem.Str.ofString "B")))])])])),
    (.set 6 (.bin .Add (.v 6) (.lst [(.call 18 [(.v 7), (.c (.str (PySem.Str.ofString "B")))]), (.call 18 [(.v 7), (.c (.str (PySem.Str.ofString "C")))]), (.call 19 [(.v 7), (.c (.str (PySem.Str.ofString "B")))]), (.call 19 [(.v 7), (.c (.str (PySem.Str.ofString "D")))])]))),
    (.set 6 (.bin .Add (.v 6) (.lst [(.call 21 [(.v 7), (.c (.int 2))]), (.call 21 [(.v 7), (.c (.int 4))]), (.call 20 [(.v 7), (.c (.str (PySem.Str.ofString "D")))]), (.call 20 [(.v 4), (.c (.str (PySem.Str.ofString "X")))])]))),
    (.set 8 (.lst [(.tup [(.c (.int 0)), (.c (.int 1))]), (.tup []), (.tup [(.c (.int 0)), (.c (.int 1))]), (.tup []), (.tup [(.c (.int 0)), (.c (.int 1)), (.c (.int 2)), (.c (.int 3)), (.c (.int 5))]), (.tup [(.c (.int 0))]), (.tup [(.c (.str (PySem.Str.ofString "C"))), (.c (.str (PySem.Str.ofString "y")))]), (.tup [(.c (.str (PySem.Str.ofString "P"))), (.c (.str (PySem.Str.ofString "t")))]), (.tup [(.c (.int 0))]), (.tup [(.c (.int 0))])])),
    (.ret (.bop .And [(.call 25 [(.v 6), (.bin .Add (.v 8) (.lst [(.tup [(.c (.int 2))]), (.tup [(.c (.int 3)), (.c (.int 4))]), (.tup [(.c (.int 0)), (.c (.int 1)), (.c (.int 2))]), (.tup [(.c (.int 0)), (.c (.int 1)), (.c (.int 2)), (.c (.int 3)), (.c (.int 4))]), (.tup [(.c (.str (PySem.Str.ofString "B"))), (.c (.str (PySem.Str.ofString "t")))]), (.tup [(.c (.str (PySem.Str.ofString "C"))), (.c (.str (PySem.Str.ofString "y")))]), (.tup [(.c (.int 0)), (.c (.int 1)), (.c (.int 2)), (.c (.int 3))]), (.tup [(.c (.int 0)), (.c (.int 1)), (.c (.int 2))])]))]), (.call 36 []), (.call 35 [(.v 1)])]))]
end K09
namespace K09
open Ev PySem PySem.Spec PyProof.Rows L2 LamX
def top (i : Nat) : Stmt := PySem.Challenge.pw_figuresproved_k09_whole_free_signs.main.body.getD i (.Pass ⟨0, 0, 0, 0⟩)
def bts : List Str := [("isinstance" : Str), ("int" : Str), ("bool" : Str), ("str" : Str), ("tuple" : Str), ("list" : Str), ("len" : Str), ("abs" : Str), ("all" : Str), ("any" : Str), ("sum" : Str), ("range" : Str), ("zip" : Str), ("enumerate" : Str), ("max" : Str), ("min" : Str), ("sorted" : Str), ("dict" : Str), ("set" : Str)]
def pc : PC := ⟨fnames, cnames, bts, consts, kds, "_law_error", sub, [1, 2, 3]⟩
abbrev NW_ : Str := ""
def wds : Words := fun k => match k with | 1 => some ("number" : Str) | 2 => some ("figure" : Str) | 3 => some ("name" : Str) | _ => none
def ps_is_whole : List Str := [("value" : Str), ("low" : Str), ("high" : Str)]
theorem bf_is_whole : BindF ("is_whole" : Str) (top 11) ps_is_whole := fun _ _ _ _ _ _ us hl => match us, hl with | [_, _, _], _ => rfl
def ps_need_whole : List Str := [("value" : Str), ("low" : Str), ("high" : Str)]
theorem bf_need_whole : BindF ("need_whole" : Str) (top 12) ps_need_whole := fun _ _ _ _ _ _ us hl => match us, hl with | [_, _, _], _ => rfl
def ps_is_tuple_of : List Str := [("value" : Str), ("low" : Str), ("high" : Str)]
theorem bf_is_tuple_of : BindF ("is_tuple_of" : Str) (top 13) ps_is_tuple_of := fun _ _ _ _ _ _ us hl => match us, hl with | [_, _, _], _ => rfl
def ps_is_fraction : List Str := [("value" : Str)]
theorem bf_is_fraction : BindF ("is_fraction" : Str) (top 16) ps_is_fraction := fun _ _ _ _ _ _ us hl => match us, hl with | [_], _ => rfl
def ps_is_portion : List Str := [("value" : Str)]
theorem bf_is_portion : BindF ("is_portion" : Str) (top 17) ps_is_portion := fun _ _ _ _ _ _ us hl => match us, hl with | [_], _ => rfl
def ps_is_name : List Str := [("value" : Str)]
theorem bf_is_name : BindF ("is_name" : Str) (top 26) ps_is_name := fun _ _ _ _ _ _ us hl => match us, hl with | [_], _ => rfl
def ps_args_of : List Str := [("kind" : Str)]
theorem bf_args_of : BindF ("args_of" : Str) (top 27) ps_args_of := fun _ _ _ _ _ _ us hl => match us, hl with | [_], _ => rfl
def ps_near : List Str := [("value" : Str)]
theorem bf_near : BindF ("near" : Str) (top 28) ps_near := fun _ _ _ _ _ _ us hl => match us, hl with | [_], _ => rfl
def ps_is_step : List Str := [("value" : Str), ("names" : Str)]
theorem bf_is_step : BindF ("is_step" : Str) (top 29) ps_is_step := fun _ _ _ _ _ _ us hl => match us, hl with | [_, _], _ => rfl
def ps_is_figure : List Str := [("value" : Str)]
theorem bf_is_figure : BindF ("is_figure" : Str) (top 30) ps_is_figure := fun _ _ _ _ _ _ us hl => match us, hl with | [_], _ => rfl
def ps_count_free : List Str := [("figure" : Str)]
theorem bf_count_free : BindF ("count_free" : Str) (top 31) ps_count_free := fun _ _ _ _ _ _ us hl => match us, hl with | [_], _ => rfl
def ps_need_figure : List Str := [("value" : Str)]
theorem bf_need_figure : BindF ("need_figure" : Str) (top 32) ps_need_figure := fun _ _ _ _ _ _ us hl => match us, hl with | [_], _ => rfl
def ps_name_list : List Str := [("figure" : Str)]
theorem bf_name_list : BindF ("name_list" : Str) (top 33) ps_name_list := fun _ _ _ _ _ _ us hl => match us, hl with | [_], _ => rfl
def ps_first_number : List Str := [("figure" : Str), ("at" : Str)]
theorem bf_first_number : BindF ("first_number" : Str) (top 34) ps_first_number := fun _ _ _ _ _ _ us hl => match us, hl with | [_, _], _ => rfl
def ps_step_of : List Str := [("figure" : Str), ("name" : Str)]
theorem bf_step_of : BindF ("step_of" : Str) (top 35) ps_step_of := fun _ _ _ _ _ _ us hl => match us, hl with | [_, _], _ => rfl
def ps_points_of_step : List Str := [("step" : Str)]
theorem bf_points_of_step : BindF ("points_of_step" : Str) (top 37) ps_points_of_step := fun _ _ _ _ _ _ us hl => match us, hl with | [_], _ => rfl
def ps_ahead_of : List Str := [("figure" : Str), ("at" : Str)]
theorem bf_ahead_of : BindF ("ahead_of" : Str) (top 38) ps_ahead_of := fun _ _ _ _ _ _ us hl => match us, hl with | [_, _], _ => rfl
def ps_signs_of : List Str := [("figure" : Str), ("at" : Str)]
theorem bf_signs_of : BindF ("signs_of" : Str) (top 39) ps_signs_of := fun _ _ _ _ _ _ us hl => match us, hl with | [_, _], _ => rfl
def ps_own_signs : List Str := [("figure" : Str), ("name" : Str)]
theorem bf_own_signs : BindF ("own_signs" : Str) (top 40) ps_own_signs := fun _ _ _ _ _ _ us hl => match us, hl with | [_, _], _ => rfl
def ps_signs_behind : List Str := [("figure" : Str), ("name" : Str)]
theorem bf_signs_behind : BindF ("signs_behind" : Str) (top 41) ps_signs_behind := fun _ _ _ _ _ _ us hl => match us, hl with | [_, _], _ => rfl
def ps_steps_ahead : List Str := [("figure" : Str), ("name" : Str)]
theorem bf_steps_ahead : BindF ("steps_ahead" : Str) (top 42) ps_steps_ahead := fun _ _ _ _ _ _ us hl => match us, hl with | [_, _], _ => rfl
def ps_step_of_sign : List Str := [("figure" : Str), ("at" : Str)]
theorem bf_step_of_sign : BindF ("step_of_sign" : Str) (top 43) ps_step_of_sign := fun _ _ _ _ _ _ us hl => match us, hl with | [_, _], _ => rfl
def ps__law_roll : List Str := [("cup" : Str), ("many" : Str)]
theorem bf__law_roll : BindF ("_law_roll" : Str) (top 46) ps__law_roll := fun _ _ _ _ _ _ us hl => match us, hl with | [_, _], _ => rfl
def ps__law_some : List Str := [("cup" : Str), ("things" : Str)]
theorem bf__law_some : BindF ("_law_some" : Str) (top 47) ps__law_some := fun _ _ _ _ _ _ us hl => match us, hl with | [_, _], _ => rfl
def ps__law_sort : List Str := [("value" : Str)]
theorem bf__law_sort : BindF ("_law_sort" : Str) (top 48) ps__law_sort := fun _ _ _ _ _ _ us hl => match us, hl with | [_], _ => rfl
def ps__law_like : List Str := [("one" : Str), ("other" : Str)]
theorem bf__law_like : BindF ("_law_like" : Str) (top 49) ps__law_like := fun _ _ _ _ _ _ us hl => match us, hl with | [_, _], _ => rfl
def ps__law_free : List Str := [("step" : Str)]
theorem bf__law_free : BindF ("_law_free" : Str) (top 50) ps__law_free := fun _ _ _ _ _ _ us hl => match us, hl with | [_], _ => rfl
def ps__law_bounds : List Str := [("figure" : Str)]
theorem bf__law_bounds : BindF ("_law_bounds" : Str) (top 51) ps__law_bounds := fun _ _ _ _ _ _ us hl => match us, hl with | [_], _ => rfl
def ps__law_any_figure : List Str := [("cup" : Str)]
theorem bf__law_any_figure : BindF ("_law_any_figure" : Str) (top 52) ps__law_any_figure := fun _ _ _ _ _ _ us hl => match us, hl with | [_], _ => rfl
def ps__law_turned : List Str := [("cup" : Str), ("many" : Str)]
theorem bf__law_turned : BindF ("_law_turned" : Str) (top 53) ps__law_turned := fun _ _ _ _ _ _ us hl => match us, hl with | [_, _], _ => rfl
def ps__law_ahead : List Str := [("figure" : Str), ("at" : Str)]
theorem bf__law_ahead : BindF ("_law_ahead" : Str) (top 54) ps__law_ahead := fun _ _ _ _ _ _ us hl => match us, hl with | [_, _], _ => rfl
def ps__law_signs : List Str := [("figure" : Str), ("at" : Str)]
theorem bf__law_signs : BindF ("_law_signs" : Str) (top 55) ps__law_signs := fun _ _ _ _ _ _ us hl => match us, hl with | [_, _], _ => rfl
def ps__law_odd_figures : List Str := []
theorem bf__law_odd_figures : BindF ("_law_odd_figures" : Str) (top 56) ps__law_odd_figures := fun _ _ _ _ _ _ us hl => match us, hl with | [], _ => rfl
def ps__law_given : List Str := []
theorem bf__law_given : BindF ("_law_given" : Str) (top 58) ps__law_given := fun _ _ _ _ _ _ us hl => match us, hl with | [], _ => rfl
def ps__law_right : List Str := [("figure" : Str)]
theorem bf__law_right : BindF ("_law_right" : Str) (top 59) ps__law_right := fun _ _ _ _ _ _ us hl => match us, hl with | [_], _ => rfl
def ps__law_great_right : List Str := [("cup" : Str)]
theorem bf__law_great_right : BindF ("_law_great_right" : Str) (top 60) ps__law_great_right := fun _ _ _ _ _ _ us hl => match us, hl with | [_], _ => rfl
def ps__law_errors_right : List Str := []
theorem bf__law_errors_right : BindF ("_law_errors_right" : Str) (top 61) ps__law_errors_right := fun _ _ _ _ _ _ us hl => match us, hl with | [], _ => rfl
def ps__law_cup : List Str := [("script" : Str)]
theorem bf__law_cup : BindF ("_law_cup" : Str) (top 45) ps__law_cup := fun _ _ _ _ _ _ us hl => match us, hl with | [_], _ => rfl
def ps__law_error : List Str := [("call" : Str)]
theorem bf__law_error : BindF ("_law_error" : Str) (top 57) ps__law_error := fun _ _ _ _ _ _ us hl => match us, hl with | [_], _ => rfl
def ps_law : List Str := [("script" : Str)]
theorem bf_law : BindF ("law" : Str) (top 62) ps_law := fun _ _ _ _ _ _ us hl => match us, hl with | [_], _ => rfl
theorem dc_is_whole : defChk pc n_d_is_whole ps_is_whole false d_is_whole (top 11) = true := by decide +kernel
theorem dc_need_whole : defChk pc n_d_need_whole ps_need_whole false d_need_whole (top 12) = true := by decide +kernel
theorem dc_is_tuple_of : defChk pc n_d_is_tuple_of ps_is_tuple_of false d_is_tuple_of (top 13) = true := by decide +kernel
theorem dc_is_fraction : defChk pc n_d_is_fraction ps_is_fraction false d_is_fraction (top 16) = true := by decide +kernel
theorem dc_is_portion : defChk pc n_d_is_portion ps_is_portion false d_is_portion (top 17) = true := by decide +kernel
theorem dc_is_name : defChk pc n_d_is_name ps_is_name false d_is_name (top 26) = true := by decide +kernel
theorem dc_args_of : defChk pc n_d_args_of ps_args_of false d_args_of (top 27) = true := by decide +kernel
theorem dc_near : defChk pc n_d_near ps_near false d_near (top 28) = true := by decide +kernel
theorem dc_is_step : defChk pc n_d_is_step ps_is_step false d_is_step (top 29) = true := by decide +kernel
theorem dc_is_figure : defChk pc n_d_is_figure ps_is_figure false d_is_figure (top 30) = true := by decide +kernel
theorem dc_count_free : defChk pc n_d_count_free ps_count_free false d_count_free (top 31) = true := by decide +kernel
theorem dc_need_figure : defChk pc n_d_need_figure ps_need_figure false d_need_figure (top 32) = true := by decide +kernel
theorem dc_name_list : defChk pc n_d_name_list ps_name_list false d_name_list (top 33) = true := by decide +kernel
theorem dc_first_number : defChk pc n_d_first_number ps_first_number false d_first_number (top 34) = true := by decide +kernel
theorem dc_step_of : defChk pc n_d_step_of ps_step_of false d_step_of (top 35) = true := by decide +kernel
theorem dc_points_of_step : defChk pc n_d_points_of_step ps_points_of_step false d_points_of_step (top 37) = true := by decide +kernel
theorem dc_ahead_of : defChk pc n_d_ahead_of ps_ahead_of false d_ahead_of (top 38) = true := by decide +kernel
theorem dc_signs_of : defChk pc n_d_signs_of ps_signs_of false d_signs_of (top 39) = true := by decide +kernel
theorem dc_own_signs : defChk pc n_d_own_signs ps_own_signs false d_own_signs (top 40) = true := by decide +kernel
theorem dc_signs_behind : defChk pc n_d_signs_behind ps_signs_behind false d_signs_behind (top 41) = true := by decide +kernel
theorem dc_steps_ahead : defChk pc n_d_steps_ahead ps_steps_ahead false d_steps_ahead (top 42) = true := by decide +kernel
theorem dc_step_of_sign : defChk pc n_d_step_of_sign ps_step_of_sign false d_step_of_sign (top 43) = true := by decide +kernel
theorem dc__law_roll : defChk pc n_d_law_roll ps__law_roll false d_law_roll (top 46) = true := by decide +kernel
theorem dc__law_some : defChk pc n_d_law_some ps__law_some false d_law_some (top 47) = true := by decide +kernel
theorem dc__law_sort : defChk pc n_d_law_sort ps__law_sort false d_law_sort (top 48) = true := by decide +kernel
theorem dc__law_like : defChk pc n_d_law_like ps__law_like false d_law_like (top 49) = true := by decide +kernel
theorem dc__law_free : defChk pc n_d_law_free ps__law_free false d_law_free (top 50) = true := by decide +kernel
theorem dc__law_bounds : defChk pc n_d_law_bounds ps__law_bounds false d_law_bounds (top 51) = true := by decide +kernel
theorem dc__law_any_figure : defChk pc n_d_law_any_figure ps__law_any_figure false d_law_any_figure (top 52) = true := by decide +kernel
theorem dc__law_turned : defChk pc n_d_law_turned ps__law_turned false d_law_turned (top 53) = true := by decide +kernel
theorem dc__law_ahead : defChk pc n_d_law_ahead ps__law_ahead false d_law_ahead (top 54) = true := by decide +kernel
theorem dc__law_signs : defChk pc n_d_law_signs ps__law_signs false d_law_signs (top 55) = true := by decide +kernel
theorem dc__law_odd_figures : defChk pc n_d_law_odd_figures ps__law_odd_figures false d_law_odd_figures (top 56) = true := by decide +kernel
theorem dc__law_given : defChk pc n_d_law_given ps__law_given false d_law_given (top 58) = true := by decide +kernel
theorem dc__law_right : defChk pc n_d_law_right ps__law_right true d_law_right (top 59) = true := by decide +kernel
theorem dc__law_great_right : defChk pc n_d_law_great_right ps__law_great_right false d_law_great_right (top 60) = true := by decide +kernel
theorem dc__law_errors_right : defChk pc n_d_law_errors_right ps__law_errors_right true d_law_errors_right (top 61) = true := by decide +kernel
theorem at_ {w : World} {K : PySem.W.Frag} {mg : Str → Option Value} {fa : Addr} {h : Heap} {ts : List Addr} (KX : K.In h) (G : h.Ns mainGlobals mg) (hfa : mg "law" = some (.ref fa)) (Y : ∀ P ∈ ts, h.get? P = some { cls := .none, data := .fields #[] })
  {f_is_whole f_need_whole f_is_tuple_of f_is_fraction f_is_portion f_is_name f_args_of f_near f_is_step f_is_figure f_count_free f_need_figure f_name_list f_first_number f_step_of f_points_of_step f_ahead_of f_signs_of f_own_signs f_signs_behind f_steps_ahead f_step_of_sign f__law_roll f__law_some f__law_sort f__law_like f__law_free f__law_bounds f__law_any_figure f__law_turned f__law_ahead f__law_signs f__law_odd_figures f__law_given f__law_right f__law_great_right f__law_errors_right f__law_cup f__law_error f_law : Addr} {v_is_whole v_need_whole v_is_tuple_of v_is_fraction v_is_portion v_is_name v_args_of v_near v_is_step v_is_figure v_count_free v_need_figure v_name_list v_first_number v_step_of v_points_of_step v_ahead_of v_signs_of v_own_signs v_signs_behind v_steps_ahead v_step_of_sign v__law_roll v__law_some v__law_sort v__law_like v__law_free v__law_bounds v__law_any_figure v__law_turned v__law_ahead v__law_signs v__law_odd_figures v__law_given v__law_great_right v__law_cup v__law_error v_law : Value} {c__law_right t__law_right c__law_errors_right t__law_errors_right C0 C1 C2 C3 C4 C5 C6 C7 : Addr}
  (D_is_whole : DF K ("is_whole" : Str) (top 11) f_is_whole v_is_whole)
  (D_need_whole : DF K ("need_whole" : Str) (top 12) f_need_whole v_need_whole)
  (D_is_tuple_of : DF K ("is_tuple_of" : Str) (top 13) f_is_tuple_of v_is_tuple_of)
  (D_is_fraction : DF K ("is_fraction" : Str) (top 16) f_is_fraction v_is_fraction)
  (D_is_portion : DF K ("is_portion" : Str) (top 17) f_is_portion v_is_portion)
  (D_is_name : DF K ("is_name" : Str) (top 26) f_is_name v_is_name)
  (D_args_of : DF K ("args_of" : Str) (top 27) f_args_of v_args_of)
  (D_near : DF K ("near" : Str) (top 28) f_near v_near)
  (D_is_step : DF K ("is_step" : Str) (top 29) f_is_step v_is_step)
  (D_is_figure : DF K ("is_figure" : Str) (top 30) f_is_figure v_is_figure)
  (D_count_free : DF K ("count_free" : Str) (top 31) f_count_free v_count_free)
  (D_need_figure : DF K ("need_figure" : Str) (top 32) f_need_figure v_need_figure)
  (D_name_list : DF K ("name_list" : Str) (top 33) f_name_list v_name_list)
  (D_first_number : DF K ("first_number" : Str) (top 34) f_first_number v_first_number)
  (D_step_of : DF K ("step_of" : Str) (top 35) f_step_of v_step_of)
  (D_points_of_step : DF K ("points_of_step" : Str) (top 37) f_points_of_step v_points_of_step)
  (D_ahead_of : DF K ("ahead_of" : Str) (top 38) f_ahead_of v_ahead_of)
  (D_signs_of : DF K ("signs_of" : Str) (top 39) f_signs_of v_signs_of)
  (D_own_signs : DF K ("own_signs" : Str) (top 40) f_own_signs v_own_signs)
  (D_signs_behind : DF K ("signs_behind" : Str) (top 41) f_signs_behind v_signs_behind)
  (D_steps_ahead : DF K ("steps_ahead" : Str) (top 42) f_steps_ahead v_steps_ahead)
  (D_step_of_sign : DF K ("step_of_sign" : Str) (top 43) f_step_of_sign v_step_of_sign)
  (D__law_roll : DF K ("_law_roll" : Str) (top 46) f__law_roll v__law_roll)
  (D__law_some : DF K ("_law_some" : Str) (top 47) f__law_some v__law_some)
  (D__law_sort : DF K ("_law_sort" : Str) (top 48) f__law_sort v__law_sort)
  (D__law_like : DF K ("_law_like" : Str) (top 49) f__law_like v__law_like)
  (D__law_free : DF K ("_law_free" : Str) (top 50) f__law_free v__law_free)
  (D__law_bounds : DF K ("_law_bounds" : Str) (top 51) f__law_bounds v__law_bounds)
  (D__law_any_figure : DF K ("_law_any_figure" : Str) (top 52) f__law_any_figure v__law_any_figure)
  (D__law_turned : DF K ("_law_turned" : Str) (top 53) f__law_turned v__law_turned)
  (D__law_ahead : DF K ("_law_ahead" : Str) (top 54) f__law_ahead v__law_ahead)
  (D__law_signs : DF K ("_law_signs" : Str) (top 55) f__law_signs v__law_signs)
  (D__law_odd_figures : DF K ("_law_odd_figures" : Str) (top 56) f__law_odd_figures v__law_odd_figures)
  (D__law_given : DF K ("_law_given" : Str) (top 58) f__law_given v__law_given)
  (D__law_right : DF K ("_law_right" : Str) (top 59) f__law_right (.ref c__law_right))
  (D__law_great_right : DF K ("_law_great_right" : Str) (top 60) f__law_great_right v__law_great_right)
  (D__law_errors_right : DF K ("_law_errors_right" : Str) (top 61) f__law_errors_right (.ref c__law_errors_right))
  (D__law_cup : DF K ("_law_cup" : Str) (top 45) f__law_cup v__law_cup)
  (D__law_error : DF K ("_law_error" : Str) (top 57) f__law_error v__law_error)
  (D_law : DF K ("law" : Str) (top 62) f_law v_law)
  (H__law_right : PySem.W.codeHdIn K c__law_right t__law_right = true) (N__law_right : K.lookup t__law_right = none) (M__law_right : t__law_right ∈ ts)
  (H__law_errors_right : PySem.W.codeHdIn K c__law_errors_right t__law_errors_right = true) (N__law_errors_right : K.lookup t__law_errors_right = none) (M__law_errors_right : t__law_errors_right ∈ ts)
  (Q_1_0 : t__law_errors_right ≠ t__law_right)
  (aC0 : PySem.W.nsIn K mainGlobals ("FigureError" : Str) = some (some (.ref C0)))
  (aC1 : PySem.W.nsIn K mainGlobals ("InvalidNumber" : Str) = some (some (.ref C1)))
  (kC1 : PySem.W.keepIn K (.ref C1) = true) (qC1 : PySem.W.excIn K C1 [.type "ValueError", .type "Exception", .type "BaseException", .type "object"] "ValueError.__new__" = true) (sC1 : PySem.W.subIn K (.ref C1) (.type "BaseException") = some true) (yC1 : PySem.W.typeIn K (.ref C1) = some (.type "type"))
  (aC2 : PySem.W.nsIn K mainGlobals ("InvalidFigure" : Str) = some (some (.ref C2)))
  (kC2 : PySem.W.keepIn K (.ref C2) = true) (qC2 : PySem.W.excIn K C2 [.type "ValueError", .type "Exception", .type "BaseException", .type "object"] "ValueError.__new__" = true) (sC2 : PySem.W.subIn K (.ref C2) (.type "BaseException") = some true) (yC2 : PySem.W.typeIn K (.ref C2) = some (.type "type"))
  (aC3 : PySem.W.nsIn K mainGlobals ("InvalidName" : Str) = some (some (.ref C3)))
  (kC3 : PySem.W.keepIn K (.ref C3) = true) (qC3 : PySem.W.excIn K C3 [.type "ValueError", .type "Exception", .type "BaseException", .type "object"] "ValueError.__new__" = true) (sC3 : PySem.W.subIn K (.ref C3) (.type "BaseException") = some true) (yC3 : PySem.W.typeIn K (.ref C3) = some (.type "type"))
  (aC4 : PySem.W.nsIn K mainGlobals ("InvalidNumbers" : Str) = some (some (.ref C4)))
  (aC5 : PySem.W.nsIn K mainGlobals ("NotNow" : Str) = some (some (.ref C5)))
  (aC6 : PySem.W.nsIn K mainGlobals ("Unlucky" : Str) = some (some (.ref C6)))
  (aC7 : PySem.W.nsIn K mainGlobals ("TooMany" : Str) = some (some (.ref C7)))
  (eC1 : PySem.W.exmOne K (.ref C1) (.ref C0) = some true) (xC1 : ExcC K C1) (iC1_0 : PySem.W.kitOne K (.ref C1) (.ref C0) = some true) (iC1_1 : PySem.W.kitOne K (.ref C1) (.ref C1) = some true) (iC1_2 : PySem.W.kitOne K (.ref C1) (.ref C2) = some false) (iC1_3 : PySem.W.kitOne K (.ref C1) (.ref C3) = some false) (iC1_4 : PySem.W.kitOne K (.ref C1) (.ref C4) = some false) (iC1_5 : PySem.W.kitOne K (.ref C1) (.ref C5) = some false) (iC1_6 : PySem.W.kitOne K (.ref C1) (.ref C6) = some false) (iC1_7 : PySem.W.kitOne K (.ref C1) (.ref C7) = some false)
  (eC2 : PySem.W.exmOne K (.ref C2) (.ref C0) = some true) (xC2 : ExcC K C2) (iC2_0 : PySem.W.kitOne K (.ref C2) (.ref C0) = some true) (iC2_1 : PySem.W.kitOne K (.ref C2) (.ref C1) = some false) (iC2_2 : PySem.W.kitOne K (.ref C2) (.ref C2) = some true) (iC2_3 : PySem.W.kitOne K (.ref C2) (.ref C3) = some false) (iC2_4 : PySem.W.kitOne K (.ref C2) (.ref C4) = some false) (iC2_5 : PySem.W.kitOne K (.ref C2) (.ref C5) = some false) (iC2_6 : PySem.W.kitOne K (.ref C2) (.ref C6) = some false) (iC2_7 : PySem.W.kitOne K (.ref C2) (.ref C7) = some false)
  (eC3 : PySem.W.exmOne K (.ref C3) (.ref C0) = some true) (xC3 : ExcC K C3) (iC3_0 : PySem.W.kitOne K (.ref C3) (.ref C0) = some true) (iC3_1 : PySem.W.kitOne K (.ref C3) (.ref C1) = some false) (iC3_2 : PySem.W.kitOne K (.ref C3) (.ref C2) = some false) (iC3_3 : PySem.W.kitOne K (.ref C3) (.ref C3) = some true) (iC3_4 : PySem.W.kitOne K (.ref C3) (.ref C4) = some false) (iC3_5 : PySem.W.kitOne K (.ref C3) (.ref C5) = some false) (iC3_6 : PySem.W.kitOne K (.ref C3) (.ref C6) = some false) (iC3_7 : PySem.W.kitOne K (.ref C3) (.ref C7) = some false)
  (b_isinstance : PySem.W.nsIn K mainGlobals ("isinstance" : Str) = some none)
  (b_int : PySem.W.nsIn K mainGlobals ("int" : Str) = some none)
  (b_bool : PySem.W.nsIn K mainGlobals ("bool" : Str) = some none)
  (b_str : PySem.W.nsIn K mainGlobals ("str" : Str) = some none)
  (b_tuple : PySem.W.nsIn K mainGlobals ("tuple" : Str) = some none)
  (b_list : PySem.W.nsIn K mainGlobals ("list" : Str) = some none)
  (b_len : PySem.W.nsIn K mainGlobals ("len" : Str) = some none)
  (b_abs : PySem.W.nsIn K mainGlobals ("abs" : Str) = some none)
  (b_all : PySem.W.nsIn K mainGlobals ("all" : Str) = some none)
  (b_any : PySem.W.nsIn K mainGlobals ("any" : Str) = some none)
  (b_sum : PySem.W.nsIn K mainGlobals ("sum" : Str) = some none)
  (b_range : PySem.W.nsIn K mainGlobals ("range" : Str) = some none)
  (b_zip : PySem.W.nsIn K mainGlobals ("zip" : Str) = some none)
  (b_enumerate : PySem.W.nsIn K mainGlobals ("enumerate" : Str) = some none)
  (b_max : PySem.W.nsIn K mainGlobals ("max" : Str) = some none)
  (b_min : PySem.W.nsIn K mainGlobals ("min" : Str) = some none)
  (b_sorted : PySem.W.nsIn K mainGlobals ("sorted" : Str) = some none)
  (b_dict : PySem.W.nsIn K mainGlobals ("dict" : Str) = some none)
  (b_set : PySem.W.nsIn K mainGlobals ("set" : Str) = some none)
  (b_gcd : PySem.W.nsIn K mainGlobals "gcd" = some (some (.builtin "math.gcd")))
  {k_FAR : Tok} (K_FAR : PySem.W.nsIn K mainGlobals ("FAR" : Str) = some (some (.int 1000000 k_FAR)))
  {k_STEPS : Tok} (K_STEPS : PySem.W.nsIn K mainGlobals ("STEPS" : Str) = some (some (.int 16 k_STEPS)))
  {k_FREE : Tok} (K_FREE : PySem.W.nsIn K mainGlobals ("FREE" : Str) = some (some (.int 8 k_FREE)))
  {k_NEAR : Tok} (K_NEAR : PySem.W.nsIn K mainGlobals ("NEAR" : Str) = some (some (.int 1000 k_NEAR)))
  {k_LETTERS : Tok} (K_LETTERS : PySem.W.nsIn K mainGlobals ("LETTERS" : Str) = some (some (.str ("ABCDEFGHIJKLMNOPQRSTUVWXYZ" : Str) k_LETTERS)))
  {a_KINDS : Addr} (K_KINDS : PySem.W.nsIn K mainGlobals ("KINDS" : Str) = some (some (.ref a_KINDS))) (U_KINDS : He.dicW K a_KINDS = some (He.keysIn w.params [("free" : Str), ("on line" : Str), ("on ring" : Str), ("middle" : Str), ("meet" : Str), ("foot" : Str), ("mirror" : Str)])) (V_KINDS : dicD K a_KINDS = some [some (("free" : Str), .int 0), some (("on line" : Str), .int 2), some (("on ring" : Str), .int 2), some (("middle" : Str), .int 2), some (("meet" : Str), .int 4), some (("foot" : Str), .int 3), some (("mirror" : Str), .int 3)])
  {a_MORE : Addr} (K_MORE : PySem.W.nsIn K mainGlobals ("MORE" : Str) = some (some (.ref a_MORE))) (U_MORE : He.dicW K a_MORE = some (He.keysIn w.params [("past" : Str), ("turned" : Str), ("second" : Str), ("round" : Str), ("rings" : Str)])) (V_MORE : dicD K a_MORE = some [some (("past" : Str), .int 3), some (("turned" : Str), .int 2), some (("second" : Str), .int 3), some (("round" : Str), .int 3), some (("rings" : Str), .int 3)])
  {a_NUMBERS : Addr} (K_NUMBERS : PySem.W.nsIn K mainGlobals ("NUMBERS" : Str) = some (some (.ref a_NUMBERS))) (U_NUMBERS : He.dicW K a_NUMBERS = some (He.keysIn w.params [("free" : Str), ("on line" : Str), ("on ring" : Str)])) (V_NUMBERS : dicD K a_NUMBERS = some [some (("free" : Str), .int 2), some (("on line" : Str), .int 1), some (("on ring" : Str), .int 1)])
  (hplain : ∀ ns : List Int, ns.length ≤ 63 → ∃ u', evSs wds "" (run wds "" prog 16) s_law (lawEnv n_law.length) (cup0 ns) = .ret (.bl true) u') :
  LawAtS PySem.Challenge.rw_figuresproved_k09_whole_free_signs w K (L2N.CX PySem.Challenge.rw_figuresproved_k09_whole_free_signs.prog w) (3 * 16 + 3) 63 "script" mg fa h := by
  let f : Fx := ⟨fun k => ([f_is_whole, f_need_whole, f_is_tuple_of, f_is_fraction, f_is_portion, f_is_name, f_args_of, f_near, f_is_step, f_is_figure, f_count_free, f_need_figure, f_name_list, f_first_number, f_step_of, f_points_of_step, f_ahead_of, f_signs_of, f_own_signs, f_signs_behind, f_steps_ahead, f_step_of_sign, f__law_roll, f__law_some, f__law_sort, f__law_like, f__law_free, f__law_bounds, f__law_any_figure, f__law_turned, f__law_ahead, f__law_signs, f__law_odd_figures, f__law_given, f__law_right, f__law_great_right, f__law_errors_right] : List Addr).getD k 0, fun k => ([C0, C1, C2, C3, C4, C5, C6, C7] : List Addr).getD k 0, [(t__law_right, ("_law_right" : Str) ++ ".<locals>." ++ "<lambda>"), (t__law_errors_right, ("_law_errors_right" : Str) ++ ".<locals>." ++ "<lambda>")], fun k => k < 37, 0, 0⟩
  have fx : ∀ k x, fnames[k]? = some x → ∃ (st : Stmt) (cdv : Value) (N ps : List Str) (er : Bool) (fd : FD), prog[k]? = some fd ∧ DF K x st (f.fa k) cdv ∧ BindF x st ps ∧ defChk pc N ps er fd st = true ∧ (er = true → ∃ c t, cdv = .ref c ∧ (c, t) ∈ [(c__law_right, t__law_right), (c__law_errors_right, t__law_errors_right)] ∧ (t, x ++ ".<locals>." ++ "<lambda>") ∈ f.T ∧ ∀ q ∈ f.T, q.1 = t → q.2 = x ++ ".<locals>." ++ "<lambda>") := by
    intro k x hk
    match k, hk with
    | 0, hk => cases (Option.some.inj (show some ("is_whole" : Str) = some x from hk)); exact ⟨top 11, _, n_d_is_whole, ps_is_whole, false, d_is_whole, rfl, D_is_whole, bf_is_whole, dc_is_whole, fun z => by cases z⟩
    | 1, hk => cases (Option.some.inj (show some ("need_whole" : Str) = some x from hk)); exact ⟨top 12, _, n_d_need_whole, ps_need_whole, false, d_need_whole, rfl, D_need_whole, bf_need_whole, dc_need_whole, fun z => by cases z⟩
    | 2, hk => cases (Option.some.inj (show some ("is_tuple_of" : Str) = some x from hk)); exact ⟨top 13, _, n_d_is_tuple_of, ps_is_tuple_of, false, d_is_tuple_of, rfl, D_is_tuple_of, bf_is_tuple_of, dc_is_tuple_of, fun z => by cases z⟩
    | 3, hk => cases (Option.some.inj (show some ("is_fraction" : Str) = some x from hk)); exact ⟨top 16, _, n_d_is_fraction, ps_is_fraction, false, d_is_fraction, rfl, D_is_fraction, bf_is_fraction, dc_is_fraction, fun z => by cases z⟩
    | 4, hk => cases (Option.some.inj (show some ("is_portion" : Str) = some x from hk)); exact ⟨top 17, _, n_d_is_portion, ps_is_portion, false, d_is_portion, rfl, D_is_portion, bf_is_portion, dc_is_portion, fun z => by cases z⟩
    | 5, hk => cases (Option.some.inj (show some ("is_name" : Str) = some x from hk)); exact ⟨top 26, _, n_d_is_name, ps_is_name, false, d_is_name, rfl, D_is_name, bf_is_name, dc_is_name, fun z => by cases z⟩
    | 6, hk => cases (Option.some.inj (show some ("args_of" : Str) = some x from hk)); exact ⟨top 27, _, n_d_args_of, ps_args_of, false, d_args_of, rfl, D_args_of, bf_args_of, dc_args_of, fun z => by cases z⟩
    | 7, hk => cases (Option.some.inj (show some ("near" : Str) = some x from hk)); exact ⟨top 28, _, n_d_near, ps_near, false, d_near, rfl, D_near, bf_near, dc_near, fun z => by cases z⟩
    | 8, hk => cases (Option.some.inj (show some ("is_step" : Str) = some x from hk)); exact ⟨top 29, _, n_d_is_step, ps_is_step, false, d_is_step, rfl, D_is_step, bf_is_step, dc_is_step, fun z => by cases z⟩
    | 9, hk => cases (Option.some.inj (show some ("is_figure" : Str) = some x from hk)); exact ⟨top 30, _, n_d_is_figure, ps_is_figure, false, d_is_figure, rfl, D_is_figure, bf_is_figure, dc_is_figure, fun z => by cases z⟩
    | 10, hk => cases (Option.some.inj (show some ("count_free" : Str) = some x from hk)); exact ⟨top 31, _, n_d_count_free, ps_count_free, false, d_count_free, rfl, D_count_free, bf_count_free, dc_count_free, fun z => by cases z⟩
    | 11, hk => cases (Option.some.inj (show some ("need_figure" : Str) = some x from hk)); exact ⟨top 32, _, n_d_need_figure, ps_need_figure, false, d_need_figure, rfl, D_need_figure, bf_need_figure, dc_need_figure, fun z => by cases z⟩
    | 12, hk => cases (Option.some.inj (show some ("name_list" : Str) = some x from hk)); exact ⟨top 33, _, n_d_name_list, ps_name_list, false, d_name_list, rfl, D_name_list, bf_name_list, dc_name_list, fun z => by cases z⟩
    | 13, hk => cases (Option.some.inj (show some ("first_number" : Str) = some x from hk)); exact ⟨top 34, _, n_d_first_number, ps_first_number, false, d_first_number, rfl, D_first_number, bf_first_number, dc_first_number, fun z => by cases z⟩
    | 14, hk => cases (Option.some.inj (show some ("step_of" : Str) = some x from hk)); exact ⟨top 35, _, n_d_step_of, ps_step_of, false, d_step_of, rfl, D_step_of, bf_step_of, dc_step_of, fun z => by cases z⟩
    | 15, hk => cases (Option.some.inj (show some ("points_of_step" : Str) = some x from hk)); exact ⟨top 37, _, n_d_points_of_step, ps_points_of_step, false, d_points_of_step, rfl, D_points_of_step, bf_points_of_step, dc_points_of_step, fun z => by cases z⟩
    | 16, hk => cases (Option.some.inj (show some ("ahead_of" : Str) = some x from hk)); exact ⟨top 38, _, n_d_ahead_of, ps_ahead_of, false, d_ahead_of, rfl, D_ahead_of, bf_ahead_of, dc_ahead_of, fun z => by cases z⟩
    | 17, hk => cases (Option.some.inj (show some ("signs_of" : Str) = some x from hk)); exact ⟨top 39, _, n_d_signs_of, ps_signs_of, false, d_signs_of, rfl, D_signs_of, bf_signs_of, dc_signs_of, fun z => by cases z⟩
    | 18, hk => cases (Option.some.inj (show some ("own_signs" : Str) = some x from hk)); exact ⟨top 40, _, n_d_own_signs, ps_own_signs, false, d_own_signs, rfl, D_own_signs, bf_own_signs, dc_own_signs, fun z => by cases z⟩
    | 19, hk => cases (Option.some.inj (show some ("signs_behind" : Str) = some x from hk)); exact ⟨top 41, _, n_d_signs_behind, ps_signs_behind, false, d_signs_behind, rfl, D_signs_behind, bf_signs_behind, dc_signs_behind, fun z => by cases z⟩
    | 20, hk => cases (Option.some.inj (show some ("steps_ahead" : Str) = some x from hk)); exact ⟨top 42, _, n_d_steps_ahead, ps_steps_ahead, false, d_steps_ahead, rfl, D_steps_ahead, bf_steps_ahead, dc_steps_ahead, fun z => by cases z⟩
    | 21, hk => cases (Option.some.inj (show some ("step_of_sign" : Str) = some x from hk)); exact ⟨top 43, _, n_d_step_of_sign, ps_step_of_sign, false, d_step_of_sign, rfl, D_step_of_sign, bf_step_of_sign, dc_step_of_sign, fun z => by cases z⟩
    | 22, hk => cases (Option.some.inj (show some ("_law_roll" : Str) = some x from hk)); exact ⟨top 46, _, n_d_law_roll, ps__law_roll, false, d_law_roll, rfl, D__law_roll, bf__law_roll, dc__law_roll, fun z => by cases z⟩
    | 23, hk => cases (Option.some.inj (show some ("_law_some" : Str) = some x from hk)); exact ⟨top 47, _, n_d_law_some, ps__law_some, false, d_law_some, rfl, D__law_some, bf__law_some, dc__law_some, fun z => by cases z⟩
    | 24, hk => cases (Option.some.inj (show some ("_law_sort" : Str) = some x from hk)); exact ⟨top 48, _, n_d_law_sort, ps__law_sort, false, d_law_sort, rfl, D__law_sort, bf__law_sort, dc__law_sort, fun z => by cases z⟩
    | 25, hk => cases (Option.some.inj (show some ("_law_like" : Str) = some x from hk)); exact ⟨top 49, _, n_d_law_like, ps__law_like, false, d_law_like, rfl, D__law_like, bf__law_like, dc__law_like, fun z => by cases z⟩
    | 26, hk => cases (Option.some.inj (show some ("_law_free" : Str) = some x from hk)); exact ⟨top 50, _, n_d_law_free, ps__law_free, false, d_law_free, rfl, D__law_free, bf__law_free, dc__law_free, fun z => by cases z⟩
    | 27, hk => cases (Option.some.inj (show some ("_law_bounds" : Str) = some x from hk)); exact ⟨top 51, _, n_d_law_bounds, ps__law_bounds, false, d_law_bounds, rfl, D__law_bounds, bf__law_bounds, dc__law_bounds, fun z => by cases z⟩
    | 28, hk => cases (Option.some.inj (show some ("_law_any_figure" : Str) = some x from hk)); exact ⟨top 52, _, n_d_law_any_figure, ps__law_any_figure, false, d_law_any_figure, rfl, D__law_any_figure, bf__law_any_figure, dc__law_any_figure, fun z => by cases z⟩
    | 29, hk => cases (Option.some.inj (show some ("_law_turned" : Str) = some x from hk)); exact ⟨top 53, _, n_d_law_turned, ps__law_turned, false, d_law_turned, rfl, D__law_turned, bf__law_turned, dc__law_turned, fun z => by cases z⟩
    | 30, hk => cases (Option.some.inj (show some ("_law_ahead" : Str) = some x from hk)); exact ⟨top 54, _, n_d_law_ahead, ps__law_ahead, false, d_law_ahead, rfl, D__law_ahead, bf__law_ahead, dc__law_ahead, fun z => by cases z⟩
    | 31, hk => cases (Option.some.inj (show some ("_law_signs" : Str) = some x from hk)); exact ⟨top 55, _, n_d_law_signs, ps__law_signs, false, d_law_signs, rfl, D__law_signs, bf__law_signs, dc__law_signs, fun z => by cases z⟩
    | 32, hk => cases (Option.some.inj (show some ("_law_odd_figures" : Str) = some x from hk)); exact ⟨top 56, _, n_d_law_odd_figures, ps__law_odd_figures, false, d_law_odd_figures, rfl, D__law_odd_figures, bf__law_odd_figures, dc__law_odd_figures, fun z => by cases z⟩
    | 33, hk => cases (Option.some.inj (show some ("_law_given" : Str) = some x from hk)); exact ⟨top 58, _, n_d_law_given, ps__law_given, false, d_law_given, rfl, D__law_given, bf__law_given, dc__law_given, fun z => by cases z⟩
    | 34, hk => cases (Option.some.inj (show some ("_law_right" : Str) = some x from hk)); exact ⟨top 59, _, n_d_law_right, ps__law_right, true, d_law_right, rfl, D__law_right, bf__law_right, dc__law_right, fun _ => ⟨c__law_right, t__law_right, rfl, by simp, by simp [f], fun q hq e => by
        have hq : q ∈ [(t__law_right, ("_law_right" : Str) ++ ".<locals>." ++ "<lambda>"), (t__law_errors_right, ("_law_errors_right" : Str) ++ ".<locals>." ++ "<lambda>")] := hq
        simp only [List.mem_cons, List.not_mem_nil, or_false] at hq
        rcases hq with rfl | rfl
        · rfl
        · exact absurd e Q_1_0⟩⟩
    | 35, hk => cases (Option.some.inj (show some ("_law_great_right" : Str) = some x from hk)); exact ⟨top 60, _, n_d_law_great_right, ps__law_great_right, false, d_law_great_right, rfl, D__law_great_right, bf__law_great_right, dc__law_great_right, fun z => by cases z⟩
    | 36, hk => cases (Option.some.inj (show some ("_law_errors_right" : Str) = some x from hk)); exact ⟨top 61, _, n_d_law_errors_right, ps__law_errors_right, true, d_law_errors_right, rfl, D__law_errors_right, bf__law_errors_right, dc__law_errors_right, fun _ => ⟨c__law_errors_right, t__law_errors_right, rfl, by simp, by simp [f], fun q hq e => by
        have hq : q ∈ [(t__law_right, ("_law_right" : Str) ++ ".<locals>." ++ "<lambda>"), (t__law_errors_right, ("_law_errors_right" : Str) ++ ".<locals>." ++ "<lambda>")] := hq
        simp only [List.mem_cons, List.not_mem_nil, or_false] at hq
        rcases hq with rfl | rfl
        · exact absurd e (Ne.symm Q_1_0)
        · rfl
        ⟩⟩
    | k + 37, hk => cases hk
  have cn0 : ∀ k y, cnames[k]? = some y → mg y = some (.ref (f.ca k)) := by
    intro k y hk
    match k, hk with
    | 0, hk => cases (Option.some.inj (show some ("FigureError" : Str) = some y from hk)); exact PySem.W.mg_of KX G aC0
    | 1, hk => cases (Option.some.inj (show some ("InvalidNumber" : Str) = some y from hk)); exact PySem.W.mg_of KX G aC1
    | 2, hk => cases (Option.some.inj (show some ("InvalidFigure" : Str) = some y from hk)); exact PySem.W.mg_of KX G aC2
    | 3, hk => cases (Option.some.inj (show some ("InvalidName" : Str) = some y from hk)); exact PySem.W.mg_of KX G aC3
    | 4, hk => cases (Option.some.inj (show some ("InvalidNumbers" : Str) = some y from hk)); exact PySem.W.mg_of KX G aC4
    | 5, hk => cases (Option.some.inj (show some ("NotNow" : Str) = some y from hk)); exact PySem.W.mg_of KX G aC5
    | 6, hk => cases (Option.some.inj (show some ("Unlucky" : Str) = some y from hk)); exact PySem.W.mg_of KX G aC6
    | 7, hk => cases (Option.some.inj (show some ("TooMany" : Str) = some y from hk)); exact PySem.W.mg_of KX G aC7
    | k + 8, hk => cases hk
  have cnx : ∀ k y, cnames[k]? = some y → pc.rc.contains k = true → mg y = some (.ref (f.ca k)) ∧ PySem.W.excIn K (f.ca k) [.type "ValueError", .type "Exception", .type "BaseException", .type "object"] "ValueError.__new__" = true ∧ PySem.W.keepIn K (.ref (f.ca k)) = true ∧ PySem.W.subIn K (.ref (f.ca k)) (.type "BaseException") = some true ∧ PySem.W.typeIn K (.ref (f.ca k)) = some (.type "type") := by
    intro k y hk hr
    match k, hk, hr with
    | 0, hk, hr => exact absurd hr (by decide)
    | 1, hk, hr => cases (Option.some.inj (show some ("InvalidNumber" : Str) = some y from hk)); exact ⟨PySem.W.mg_of KX G aC1, qC1, kC1, sC1, yC1⟩
    | 2, hk, hr => cases (Option.some.inj (show some ("InvalidFigure" : Str) = some y from hk)); exact ⟨PySem.W.mg_of KX G aC2, qC2, kC2, sC2, yC2⟩
    | 3, hk, hr => cases (Option.some.inj (show some ("InvalidName" : Str) = some y from hk)); exact ⟨PySem.W.mg_of KX G aC3, qC3, kC3, sC3, yC3⟩
    | 4, hk, hr => exact absurd hr (by decide)
    | 5, hk, hr => exact absurd hr (by decide)
    | 6, hk, hr => exact absurd hr (by decide)
    | 7, hk, hr => exact absurd hr (by decide)
    | k + 8, hk, hr => cases hk
  have btx : ∀ x ∈ bts, mg x = none := by
    intro x hx
    simp only [bts, List.mem_cons, List.not_mem_nil, or_false] at hx
    rcases hx with rfl | rfl | rfl | rfl | rfl | rfl | rfl | rfl | rfl | rfl | rfl | rfl | rfl | rfl | rfl | rfl | rfl | rfl | rfl
    · exact PySem.W.mg_none_of KX G b_isinstance
    · exact PySem.W.mg_none_of KX G b_int
    · exact PySem.W.mg_none_of KX G b_bool
    · exact PySem.W.mg_none_of KX G b_str
    · exact PySem.W.mg_none_of KX G b_tuple
    · exact PySem.W.mg_none_of KX G b_list
    · exact PySem.W.mg_none_of KX G b_len
    · exact PySem.W.mg_none_of KX G b_abs
    · exact PySem.W.mg_none_of KX G b_all
    · exact PySem.W.mg_none_of KX G b_any
    · exact PySem.W.mg_none_of KX G b_sum
    · exact PySem.W.mg_none_of KX G b_range
    · exact PySem.W.mg_none_of KX G b_zip
    · exact PySem.W.mg_none_of KX G b_enumerate
    · exact PySem.W.mg_none_of KX G b_max
    · exact PySem.W.mg_none_of KX G b_min
    · exact PySem.W.mg_none_of KX G b_sorted
    · exact PySem.W.mg_none_of KX G b_dict
    · exact PySem.W.mg_none_of KX G b_set
  have gcdx : mg "gcd" = some (.builtin "math.gcd") := PySem.W.mg_of KX G b_gcd
  have hd : ∀ base, HdOk ⟨PySem.Challenge.rw_figuresproved_k09_whole_free_signs.prog, w, K, mg, base⟩ pc f wds NW_ C0 n_err.length 1 s_err := fun base => {
    cls := fun k x hk => by
      match k, hk with
      | 0, hk => cases hk
      | 1, hk => exact ⟨eC1, xC1, fun j b hb => by
          match j, hb with
          | 0, hb => cases (Option.some.inj (show some true = some b from hb)); exact iC1_0
          | 1, hb => cases (Option.some.inj (show some true = some b from hb)); exact iC1_1
          | 2, hb => cases (Option.some.inj (show some false = some b from hb)); exact iC1_2
          | 3, hb => cases (Option.some.inj (show some false = some b from hb)); exact iC1_3
          | 4, hb => cases (Option.some.inj (show some false = some b from hb)); exact iC1_4
          | 5, hb => cases (Option.some.inj (show some false = some b from hb)); exact iC1_5
          | 6, hb => cases (Option.some.inj (show some false = some b from hb)); exact iC1_6
          | 7, hb => cases (Option.some.inj (show some false = some b from hb)); exact iC1_7
          | j + 8, hb => cases hb⟩
      | 2, hk => exact ⟨eC2, xC2, fun j b hb => by
          match j, hb with
          | 0, hb => cases (Option.some.inj (show some true = some b from hb)); exact iC2_0
          | 1, hb => cases (Option.some.inj (show some false = some b from hb)); exact iC2_1
          | 2, hb => cases (Option.some.inj (show some true = some b from hb)); exact iC2_2
          | 3, hb => cases (Option.some.inj (show some false = some b from hb)); exact iC2_3
          | 4, hb => cases (Option.some.inj (show some false = some b from hb)); exact iC2_4
          | 5, hb => cases (Option.some.inj (show some false = some b from hb)); exact iC2_5
          | 6, hb => cases (Option.some.inj (show some false = some b from hb)); exact iC2_6
          | 7, hb => cases (Option.some.inj (show some false = some b from hb)); exact iC2_7
          | j + 8, hb => cases hb⟩
      | 3, hk => exact ⟨eC3, xC3, fun j b hb => by
          match j, hb with
          | 0, hb => cases (Option.some.inj (show some true = some b from hb)); exact iC3_0
          | 1, hb => cases (Option.some.inj (show some false = some b from hb)); exact iC3_1
          | 2, hb => cases (Option.some.inj (show some false = some b from hb)); exact iC3_2
          | 3, hb => cases (Option.some.inj (show some true = some b from hb)); exact iC3_3
          | 4, hb => cases (Option.some.inj (show some false = some b from hb)); exact iC3_4
          | 5, hb => cases (Option.some.inj (show some false = some b from hb)); exact iC3_5
          | 6, hb => cases (Option.some.inj (show some false = some b from hb)); exact iC3_6
          | 7, hb => cases (Option.some.inj (show some false = some b from hb)); exact iC3_7
          | j + 8, hb => cases hb⟩
      | k + 4, hk => cases hk
    ev := fun k x hk u => by
      match k, hk with
      | 0, hk => cases hk
      | 1, hk => cases (Option.some.inj (show some ("number" : Str) = some x from hk)); rfl
      | 2, hk => cases (Option.some.inj (show some ("figure" : Str) = some x from hk)); rfl
      | 3, hk => cases (Option.some.inj (show some ("name" : Str) = some x from hk)); rfl
      | k + 4, hk => cases hk
    bt := btx
    gcd := gcdx
    cn := fun k x hk => cn0 k x hk }
  have sys : ∀ base : Heap, (∀ q ∈ [(c__law_right, t__law_right), (c__law_errors_right, t__law_errors_right)], TabB base mg q.1 q.2) → SysOk ⟨PySem.Challenge.rw_figuresproved_k09_whole_free_signs.prog, w, K, mg, base⟩ pc f wds NW_ prog := fun base TB => {
    at_ := fun k x hk => by
      obtain ⟨st, cdv, N, ps, er, fd, e, D, _⟩ := fx k x hk
      exact ⟨PySem.W.mg_of KX G D.a, D.k⟩
    has := fun k x hk => by
      obtain ⟨st, cdv, N, ps, er, fd, e, D, hb, hc, he⟩ := fx k x hk
      refine ⟨fd, e, defOk_of (S := ⟨PySem.Challenge.rw_figuresproved_k09_whole_free_signs.prog, w, K, mg, base⟩) hk D hb hc fun z => ?_⟩
      obtain ⟨c, t, e1, e2, e3, e4⟩ := he z
      exact ⟨c, t, TB _ e2, e1, e3, e4⟩
    kn := fun k => by
      show k < 37 ↔ ∃ x, fnames[k]? = some x
      constructor
      · intro hk
        exact ⟨fnames[k]'hk, List.getElem?_eq_getElem hk⟩
      · rintro ⟨x, hk⟩
        exact (List.getElem?_eq_some_iff.mp hk).1
    bt := btx
    gcd := gcdx
    er := by
      obtain ⟨oc, od, kV, doc, pm, an, ct, osl, l⟩ := D__law_error.l
      have hsc : scOk n_err ps__law_error (defScope (top 57)) = true := by decide +kernel
      exact ⟨f__law_error, defArgs (top 57), defBody (top 57), defScope (top 57), .none, kV, doc, pm, v__law_error, ct, oc, an, od, osl, n_err, "call", PySem.W.mg_of KX G D__law_error.a, D__law_error.k, l, D__law_error.c, .all (bf__law_error kV doc pm an v__law_error ct), sc_of hsc, rfl, by first | exact .inl (by decide +kernel) | exact .inr (.inl (by decide +kernel)), by decide, by decide,
        gives_ok (S := ⟨PySem.Challenge.rw_figuresproved_k09_whole_free_signs.prog, w, K, mg, base⟩) (p := pc) (i := 1) (CS := C0) (suiteS := s_err) (x := ("FigureError" : Str)) (e := "e") (hd base) (PySem.W.mg_of KX G aC0) (by decide +kernel) (by decide) (sc_of hsc) rfl (by decide +kernel) (by decide +kernel)⟩
    gc := fun q hq => by
      have hq : q ∈ consts := hq
      simp only [consts, List.mem_cons, List.not_mem_nil, or_false] at hq
      rcases hq with rfl | rfl | rfl | rfl | rfl
      · exact ⟨_, .int 1000000, PySem.W.mg_of KX G K_FAR, ⟨_, rfl⟩, fun _ _ _ => rfl⟩
      · exact ⟨_, .int 16, PySem.W.mg_of KX G K_STEPS, ⟨_, rfl⟩, fun _ _ _ => rfl⟩
      · exact ⟨_, .int 8, PySem.W.mg_of KX G K_FREE, ⟨_, rfl⟩, fun _ _ _ => rfl⟩
      · exact ⟨_, .int 1000, PySem.W.mg_of KX G K_NEAR, ⟨_, rfl⟩, fun _ _ _ => rfl⟩
      · exact ⟨_, .str ("ABCDEFGHIJKLMNOPQRSTUVWXYZ" : Str), PySem.W.mg_of KX G K_LETTERS, ⟨_, rfl⟩, fun _ _ _ => rfl⟩
    kd := fun q hq => by
      have hq : q ∈ kds := hq
      simp only [kds, List.mem_cons, List.not_mem_nil, or_false] at hq
      rcases hq with rfl | rfl | rfl
      · exact ⟨a_KINDS, PySem.W.mg_of KX G K_KINDS, ktab_of (t := [(("free" : Str), .int 0), (("on line" : Str), .int 2), (("on ring" : Str), .int 2), (("middle" : Str), .int 2), (("meet" : Str), .int 4), (("foot" : Str), .int 3), (("mirror" : Str), .int 3)]) U_KINDS V_KINDS⟩
      · exact ⟨a_MORE, PySem.W.mg_of KX G K_MORE, ktab_of (t := [(("past" : Str), .int 3), (("turned" : Str), .int 2), (("second" : Str), .int 3), (("round" : Str), .int 3), (("rings" : Str), .int 3)]) U_MORE V_MORE⟩
      · exact ⟨a_NUMBERS, PySem.W.mg_of KX G K_NUMBERS, ktab_of (t := [(("free" : Str), .int 2), (("on line" : Str), .int 1), (("on ring" : Str), .int 1)]) U_NUMBERS V_NUMBERS⟩
    ra := fun k y hk hr => by
      obtain ⟨h1, h2, h3, h4, h5⟩ := cnx k y hk hr
      exact ⟨_, _, _, _, PySem.F.excBase_ValueError, h2, h1, h3, h4, h5⟩ }
  exact law_at (l := PySem.Challenge.rw_figuresproved_k09_whole_free_signs) (p := pc) (f := f) (wd := wds) (nw := NW_) (pr := prog) (n := 16) (cs := [(c__law_right, t__law_right), (c__law_errors_right, t__law_errors_right)]) (N := n_law) (sS := s_law) KX G hfa
    (fun q hq => by simp only [List.mem_cons, List.not_mem_nil, or_false] at hq; rcases hq with rfl | rfl <;> first | exact Y _ M__law_right | exact Y _ M__law_errors_right)
    (fun q hq => by simp only [List.mem_cons, List.not_mem_nil, or_false] at hq; rcases hq with rfl | rfl <;> first | exact N__law_right | exact N__law_errors_right)
    (fun q hq => by simp only [List.mem_cons, List.not_mem_nil, or_false] at hq; rcases hq with rfl | rfl <;> first | exact H__law_right | exact H__law_errors_right)
    (fun q hq => by
      have hq : q ∈ [(t__law_right, ("_law_right" : Str) ++ ".<locals>." ++ "<lambda>"), (t__law_errors_right, ("_law_errors_right" : Str) ++ ".<locals>." ++ "<lambda>")] := hq
      simp only [List.mem_cons, List.not_mem_nil, or_false] at hq
      rcases hq with rfl | rfl
      · exact ⟨c__law_right, List.mem_cons_self⟩
      · exact ⟨c__law_errors_right, (List.mem_cons_of_mem _ List.mem_cons_self)⟩)
    sys D_law bf_law rfl (by decide +kernel) rfl rfl (by decide +kernel) (by decide +kernel) (by decide +kernel) (by decide +kernel) D__law_cup bf__law_cup (by decide +kernel) (by decide +kernel) (by decide +kernel) (by decide +kernel) (by decide +kernel) (by decide +kernel) (btx _ (by simp [bts])) (btx _ (by simp [bts])) (btx _ (by simp [bts])) rfl hplain
theorem raw_ {w : World} {K : PySem.W.Frag} {mg : Str → Option Value} {fa : Addr} {h : Heap} {ts : List Addr} (KX : K.In h) (G : h.Ns mainGlobals mg) (hfa : mg "law" = some (.ref fa)) (Y : ∀ P ∈ ts, h.get? P = some { cls := .none, data := .fields #[] })
  {f_is_whole f_need_whole f_is_tuple_of f_is_fraction f_is_portion f_is_name f_args_of f_near f_is_step f_is_figure f_count_free f_need_figure f_name_list f_first_number f_step_of f_points_of_step f_ahead_of f_signs_of f_own_signs f_signs_behind f_steps_ahead f_step_of_sign f__law_roll f__law_some f__law_sort f__law_like f__law_free f__law_bounds f__law_any_figure f__law_turned f__law_ahead f__law_signs f__law_odd_figures f__law_given f__law_right f__law_great_right f__law_errors_right f__law_cup f__law_error f_law : Addr} {v_is_whole v_need_whole v_is_tuple_of v_is_fraction v_is_portion v_is_name v_args_of v_near v_is_step v_is_figure v_count_free v_need_figure v_name_list v_first_number v_step_of v_points_of_step v_ahead_of v_signs_of v_own_signs v_signs_behind v_steps_ahead v_step_of_sign v__law_roll v__law_some v__law_sort v__law_like v__law_free v__law_bounds v__law_any_figure v__law_turned v__law_ahead v__law_signs v__law_odd_figures v__law_given v__law_great_right v__law_cup v__law_error v_law : Value} {c__law_right t__law_right c__law_errors_right t__law_errors_right C0 C1 C2 C3 C4 C5 C6 C7 : Addr}
  {o_is_whole kV_is_whole dc_is_whole pm_is_whole ct_is_whole : Value} {od_is_whole an_is_whole : Option Addr} {sl_is_whole : Array (Option Value)}
  (a_is_whole : PySem.W.nsIn K mainGlobals ("is_whole" : Str) = some (some (.ref f_is_whole))) (l_is_whole : K.lookup f_is_whole = some ⟨o_is_whole, od_is_whole, .func (PySem.W.fnOf ("is_whole" : Str) ("is_whole" : Str) (defArgs (top 11)) (defBody (top 11)) (defScope (top 11)) .none kV_is_whole dc_is_whole pm_is_whole an_is_whole v_is_whole ct_is_whole), sl_is_whole⟩) (e_is_whole : PySem.W.codeIn K v_is_whole ("is_whole" : Str) = true) (k_is_whole : PySem.W.keepIn K (.ref f_is_whole) = true)
  {o_need_whole kV_need_whole dc_need_whole pm_need_whole ct_need_whole : Value} {od_need_whole an_need_whole : Option Addr} {sl_need_whole : Array (Option Value)}
  (a_need_whole : PySem.W.nsIn K mainGlobals ("need_whole" : Str) = some (some (.ref f_need_whole))) (l_need_whole : K.lookup f_need_whole = some ⟨o_need_whole, od_need_whole, .func (PySem.W.fnOf ("need_whole" : Str) ("need_whole" : Str) (defArgs (top 12)) (defBody (top 12)) (defScope (top 12)) .none kV_need_whole dc_need_whole pm_need_whole an_need_whole v_need_whole ct_need_whole), sl_need_whole⟩) (e_need_whole : PySem.W.codeIn K v_need_whole ("need_whole" : Str) = true) (k_need_whole : PySem.W.keepIn K (.ref f_need_whole) = true)
  {o_is_tuple_of kV_is_tuple_of dc_is_tuple_of pm_is_tuple_of ct_is_tuple_of : Value} {od_is_tuple_of an_is_tuple_of : Option Addr} {sl_is_tuple_of : Array (Option Value)}
  (a_is_tuple_of : PySem.W.nsIn K mainGlobals ("is_tuple_of" : Str) = some (some (.ref f_is_tuple_of))) (l_is_tuple_of : K.lookup f_is_tuple_of = some ⟨o_is_tuple_of, od_is_tuple_of, .func (PySem.W.fnOf ("is_tuple_of" : Str) ("is_tuple_of" : Str) (defArgs (top 13)) (defBody (top 13)) (defScope (top 13)) .none kV_is_tuple_of dc_is_tuple_of pm_is_tuple_of an_is_tuple_of v_is_tuple_of ct_is_tuple_of), sl_is_tuple_of⟩) (e_is_tuple_of : PySem.W.codeIn K v_is_tuple_of ("is_tuple_of" : Str) = true) (k_is_tuple_of : PySem.W.keepIn K (.ref f_is_tuple_of) = true)
  {o_is_fraction kV_is_fraction dc_is_fraction pm_is_fraction ct_is_fraction : Value} {od_is_fraction an_is_fraction : Option Addr} {sl_is_fraction : Array (Option Value)}
  (a_is_fraction : PySem.W.nsIn K mainGlobals ("is_fraction" : Str) = some (some (.ref f_is_fraction))) (l_is_fraction : K.lookup f_is_fraction = some ⟨o_is_fraction, od_is_fraction, .func (PySem.W.fnOf ("is_fraction" : Str) ("is_fraction" : Str) (defArgs (top 16)) (defBody (top 16)) (defScope (top 16)) .none kV_is_fraction dc_is_fraction pm_is_fraction an_is_fraction v_is_fraction ct_is_fraction), sl_is_fraction⟩) (e_is_fraction : PySem.W.codeIn K v_is_fraction ("is_fraction" : Str) = true) (k_is_fraction : PySem.W.keepIn K (.ref f_is_fraction) = true)
  {o_is_portion kV_is_portion dc_is_portion pm_is_portion ct_is_portion : Value} {od_is_portion an_is_portion : Option Addr} {sl_is_portion : Array (Option Value)}
  (a_is_portion : PySem.W.nsIn K mainGlobals ("is_portion" : Str) = some (some (.ref f_is_portion))) (l_is_portion : K.lookup f_is_portion = some ⟨o_is_portion, od_is_portion, .func (PySem.W.fnOf ("is_portion" : Str) ("is_portion" : Str) (defArgs (top 17)) (defBody (top 17)) (defScope (top 17)) .none kV_is_portion dc_is_portion pm_is_portion an_is_portion v_is_portion ct_is_portion), sl_is_portion⟩) (e_is_portion : PySem.W.codeIn K v_is_portion ("is_portion" : Str) = true) (k_is_portion : PySem.W.keepIn K (.ref f_is_portion) = true)
  {o_is_name kV_is_name dc_is_name pm_is_name ct_is_name : Value} {od_is_name an_is_name : Option Addr} {sl_is_name : Array (Option Value)}
  (a_is_name : PySem.W.nsIn K mainGlobals ("is_name" : Str) = some (some (.ref f_is_name))) (l_is_name : K.lookup f_is_name = some ⟨o_is_name, od_is_name, .func (PySem.W.fnOf ("is_name" : Str) ("is_name" : Str) (defArgs (top 26)) (defBody (top 26)) (defScope (top 26)) .none kV_is_name dc_is_name pm_is_name an_is_name v_is_name ct_is_name), sl_is_name⟩) (e_is_name : PySem.W.codeIn K v_is_name ("is_name" : Str) = true) (k_is_name : PySem.W.keepIn K (.ref f_is_name) = true)
  {o_args_of kV_args_of dc_args_of pm_args_of ct_args_of : Value} {od_args_of an_args_of : Option Addr} {sl_args_of : Array (Option Value)}
  (a_args_of : PySem.W.nsIn K mainGlobals ("args_of" : Str) = some (some (.ref f_args_of))) (l_args_of : K.lookup f_args_of = some ⟨o_args_of, od_args_of, .func (PySem.W.fnOf ("args_of" : Str) ("args_of" : Str) (defArgs (top 27)) (defBody (top 27)) (defScope (top 27)) .none kV_args_of dc_args_of pm_args_of an_args_of v_args_of ct_args_of), sl_args_of⟩) (e_args_of : PySem.W.codeIn K v_args_of ("args_of" : Str) = true) (k_args_of : PySem.W.keepIn K (.ref f_args_of) = true)
  {o_near kV_near dc_near pm_near ct_near : Value} {od_near an_near : Option Addr} {sl_near : Array (Option Value)}
  (a_near : PySem.W.nsIn K mainGlobals ("near" : Str) = some (some (.ref f_near))) (l_near : K.lookup f_near = some ⟨o_near, od_near, .func (PySem.W.fnOf ("near" : Str) ("near" : Str) (defArgs (top 28)) (defBody (top 28)) (defScope (top 28)) .none kV_near dc_near pm_near an_near v_near ct_near), sl_near⟩) (e_near : PySem.W.codeIn K v_near ("near" : Str) = true) (k_near : PySem.W.keepIn K (.ref f_near) = true)
  {o_is_step kV_is_step dc_is_step pm_is_step ct_is_step : Value} {od_is_step an_is_step : Option Addr} {sl_is_step : Array (Option Value)}
  (a_is_step : PySem.W.nsIn K mainGlobals ("is_step" : Str) = some (some (.ref f_is_step))) (l_is_step : K.lookup f_is_step = some ⟨o_is_step, od_is_step, .func (PySem.W.fnOf ("is_step" : Str) ("is_step" : Str) (defArgs (top 29)) (defBody (top 29)) (defScope (top 29)) .none kV_is_step dc_is_step pm_is_step an_is_step v_is_step ct_is_step), sl_is_step⟩) (e_is_step : PySem.W.codeIn K v_is_step ("is_step" : Str) = true) (k_is_step : PySem.W.keepIn K (.ref f_is_step) = true)
  {o_is_figure kV_is_figure dc_is_figure pm_is_figure ct_is_figure : Value} {od_is_figure an_is_figure : Option Addr} {sl_is_figure : Array (Option Value)}
  (a_is_figure : PySem.W.nsIn K mainGlobals ("is_figure" : Str) = some (some (.ref f_is_figure))) (l_is_figure : K.lookup f_is_figure = some ⟨o_is_figure, od_is_figure, .func (PySem.W.fnOf ("is_figure" : Str) ("is_figure" : Str) (defArgs (top 30)) (defBody (top 30)) (defScope (top 30)) .none kV_is_figure dc_is_figure pm_is_figure an_is_figure v_is_figure ct_is_figure), sl_is_figure⟩) (e_is_figure : PySem.W.codeIn K v_is_figure ("is_figure" : Str) = true) (k_is_figure : PySem.W.keepIn K (.ref f_is_figure) = true)
  {o_count_free kV_count_free dc_count_free pm_count_free ct_count_free : Value} {od_count_free an_count_free : Option Addr} {sl_count_free : Array (Option Value)}
  (a_count_free : PySem.W.nsIn K mainGlobals ("count_free" : Str) = some (some (.ref f_count_free))) (l_count_free : K.lookup f_count_free = some ⟨o_count_free, od_count_free, .func (PySem.W.fnOf ("count_free" : Str) ("count_free" : Str) (defArgs (top 31)) (defBody (top 31)) (defScope (top 31)) .none kV_count_free dc_count_free pm_count_free an_count_free v_count_free ct_count_free), sl_count_free⟩) (e_count_free : PySem.W.codeIn K v_count_free ("count_free" : Str) = true) (k_count_free : PySem.W.keepIn K (.ref f_count_free) = true)
  {o_need_figure kV_need_figure dc_need_figure pm_need_figure ct_need_figure : Value} {od_need_figure an_need_figure : Option Addr} {sl_need_figure : Array (Option Value)}
  (a_need_figure : PySem.W.nsIn K mainGlobals ("need_figure" : Str) = some (some (.ref f_need_figure))) (l_need_figure : K.lookup f_need_figure = some ⟨o_need_figure, od_need_figure, .func (PySem.W.fnOf ("need_figure" : Str) ("need_figure" : Str) (defArgs (top 32)) (defBody (top 32)) (defScope (top 32)) .none kV_need_figure dc_need_figure pm_need_figure an_need_figure v_need_figure ct_need_figure), sl_need_figure⟩) (e_need_figure : PySem.W.codeIn K v_need_figure ("need_figure" : Str) = true) (k_need_figure : PySem.W.keepIn K (.ref f_need_figure) = true)
  {o_name_list kV_name_list dc_name_list pm_name_list ct_name_list : Value} {od_name_list an_name_list : Option Addr} {sl_name_list : Array (Option Value)}
  (a_name_list : PySem.W.nsIn K mainGlobals ("name_list" : Str) = some (some (.ref f_name_list))) (l_name_list : K.lookup f_name_list = some ⟨o_name_list, od_name_list, .func (PySem.W.fnOf ("name_list" : Str) ("name_list" : Str) (defArgs (top 33)) (defBody (top 33)) (defScope (top 33)) .none kV_name_list dc_name_list pm_name_list an_name_list v_name_list ct_name_list), sl_name_list⟩) (e_name_list : PySem.W.codeIn K v_name_list ("name_list" : Str) = true) (k_name_list : PySem.W.keepIn K (.ref f_name_list) = true)
  {o_first_number kV_first_number dc_first_number pm_first_number ct_first_number : Value} {od_first_number an_first_number : Option Addr} {sl_first_number : Array (Option Value)}
  (a_first_number : PySem.W.nsIn K mainGlobals ("first_number" : Str) = some (some (.ref f_first_number))) (l_first_number : K.lookup f_first_number = some ⟨o_first_number, od_first_number, .func (PySem.W.fnOf ("first_number" : Str) ("first_number" : Str) (defArgs (top 34)) (defBody (top 34)) (defScope (top 34)) .none kV_first_number dc_first_number pm_first_number an_first_number v_first_number ct_first_number), sl_first_number⟩) (e_first_number : PySem.W.codeIn K v_first_number ("first_number" : Str) = true) (k_first_number : PySem.W.keepIn K (.ref f_first_number) = true)
  {o_step_of kV_step_of dc_step_of pm_step_of ct_step_of : Value} {od_step_of an_step_of : Option Addr} {sl_step_of : Array (Option Value)}
  (a_step_of : PySem.W.nsIn K mainGlobals ("step_of" : Str) = some (some (.ref f_step_of))) (l_step_of : K.lookup f_step_of = some ⟨o_step_of, od_step_of, .func (PySem.W.fnOf ("step_of" : Str) ("step_of" : Str) (defArgs (top 35)) (defBody (top 35)) (defScope (top 35)) .none kV_step_of dc_step_of pm_step_of an_step_of v_step_of ct_step_of), sl_step_of⟩) (e_step_of : PySem.W.codeIn K v_step_of ("step_of" : Str) = true) (k_step_of : PySem.W.keepIn K (.ref f_step_of) = true)
  {o_points_of_step kV_points_of_step dc_points_of_step pm_points_of_step ct_points_of_step : Value} {od_points_of_step an_points_of_step : Option Addr} {sl_points_of_step : Array (Option Value)}
  (a_points_of_step : PySem.W.nsIn K mainGlobals ("points_of_step" : Str) = some (some (.ref f_points_of_step))) (l_points_of_step : K.lookup f_points_of_step = some ⟨o_points_of_step, od_points_of_step, .func (PySem.W.fnOf ("points_of_step" : Str) ("points_of_step" : Str) (defArgs (top 37)) (defBody (top 37)) (defScope (top 37)) .none kV_points_of_step dc_points_of_step pm_points_of_step an_points_of_step v_points_of_step ct_points_of_step), sl_points_of_step⟩) (e_points_of_step : PySem.W.codeIn K v_points_of_step ("points_of_step" : Str) = true) (k_points_of_step : PySem.W.keepIn K (.ref f_points_of_step) = true)
  {o_ahead_of kV_ahead_of dc_ahead_of pm_ahead_of ct_ahead_of : Value} {od_ahead_of an_ahead_of : Option Addr} {sl_ahead_of : Array (Option Value)}
  (a_ahead_of : PySem.W.nsIn K mainGlobals ("ahead_of" : Str) = some (some (.ref f_ahead_of))) (l_ahead_of : K.lookup f_ahead_of = some ⟨o_ahead_of, od_ahead_of, .func (PySem.W.fnOf ("ahead_of" : Str) ("ahead_of" : Str) (defArgs (top 38)) (defBody (top 38)) (defScope (top 38)) .none kV_ahead_of dc_ahead_of pm_ahead_of an_ahead_of v_ahead_of ct_ahead_of), sl_ahead_of⟩) (e_ahead_of : PySem.W.codeIn K v_ahead_of ("ahead_of" : Str) = true) (k_ahead_of : PySem.W.keepIn K (.ref f_ahead_of) = true)
  {o_signs_of kV_signs_of dc_signs_of pm_signs_of ct_signs_of : Value} {od_signs_of an_signs_of : Option Addr} {sl_signs_of : Array (Option Value)}
  (a_signs_of : PySem.W.nsIn K mainGlobals ("signs_of" : Str) = some (some (.ref f_signs_of))) (l_signs_of : K.lookup f_signs_of = some ⟨o_signs_of, od_signs_of, .func (PySem.W.fnOf ("signs_of" : Str) ("signs_of" : Str) (defArgs (top 39)) (defBody (top 39)) (defScope (top 39)) .none kV_signs_of dc_signs_of pm_signs_of an_signs_of v_signs_of ct_signs_of), sl_signs_of⟩) (e_signs_of : PySem.W.codeIn K v_signs_of ("signs_of" : Str) = true) (k_signs_of : PySem.W.keepIn K (.ref f_signs_of) = true)
  {o_own_signs kV_own_signs dc_own_signs pm_own_signs ct_own_signs : Value} {od_own_signs an_own_signs : Option Addr} {sl_own_signs : Array (Option Value)}
  (a_own_signs : PySem.W.nsIn K mainGlobals ("own_signs" : Str) = some (some (.ref f_own_signs))) (l_own_signs : K.lookup f_own_signs = some ⟨o_own_signs, od_own_signs, .func (PySem.W.fnOf ("own_signs" : Str) ("own_signs" : Str) (defArgs (top 40)) (defBody (top 40)) (defScope (top 40)) .none kV_own_signs dc_own_signs pm_own_signs an_own_signs v_own_signs ct_own_signs), sl_own_signs⟩) (e_own_signs : PySem.W.codeIn K v_own_signs ("own_signs" : Str) = true) (k_own_signs : PySem.W.keepIn K (.ref f_own_signs) = true)
  {o_signs_behind kV_signs_behind dc_signs_behind pm_signs_behind ct_signs_behind : Value} {od_signs_behind an_signs_behind : Option Addr} {sl_signs_behind : Array (Option Value)}
  (a_signs_behind : PySem.W.nsIn K mainGlobals ("signs_behind" : Str) = some (some (.ref f_signs_behind))) (l_signs_behind : K.lookup f_signs_behind = some ⟨o_signs_behind, od_signs_behind, .func (PySem.W.fnOf ("signs_behind" : Str) ("signs_behind" : Str) (defArgs (top 41)) (defBody (top 41)) (defScope (top 41)) .none kV_signs_behind dc_signs_behind pm_signs_behind an_signs_behind v_signs_behind ct_signs_behind), sl_signs_behind⟩) (e_signs_behind : PySem.W.codeIn K v_signs_behind ("signs_behind" : Str) = true) (k_signs_behind : PySem.W.keepIn K (.ref f_signs_behind) = true)
  {o_steps_ahead kV_steps_ahead dc_steps_ahead pm_steps_ahead ct_steps_ahead : Value} {od_steps_ahead an_steps_ahead : Option Addr} {sl_steps_ahead : Array (Option Value)}
  (a_steps_ahead : PySem.W.nsIn K mainGlobals ("steps_ahead" : Str) = some (some (.ref f_steps_ahead))) (l_steps_ahead : K.lookup f_steps_ahead = some ⟨o_steps_ahead, od_steps_ahead, .func (PySem.W.fnOf ("steps_ahead" : Str) ("steps_ahead" : Str) (defArgs (top 42)) (defBody (top 42)) (defScope (top 42)) .none kV_steps_ahead dc_steps_ahead pm_steps_ahead an_steps_ahead v_steps_ahead ct_steps_ahead), sl_steps_ahead⟩) (e_steps_ahead : PySem.W.codeIn K v_steps_ahead ("steps_ahead" : Str) = true) (k_steps_ahead : PySem.W.keepIn K (.ref f_steps_ahead) = true)
  {o_step_of_sign kV_step_of_sign dc_step_of_sign pm_step_of_sign ct_step_of_sign : Value} {od_step_of_sign an_step_of_sign : Option Addr} {sl_step_of_sign : Array (Option Value)}
  (a_step_of_sign : PySem.W.nsIn K mainGlobals ("step_of_sign" : Str) = some (some (.ref f_step_of_sign))) (l_step_of_sign : K.lookup f_step_of_sign = some ⟨o_step_of_sign, od_step_of_sign, .func (PySem.W.fnOf ("step_of_sign" : Str) ("step_of_sign" : Str) (defArgs (top 43)) (defBody (top 43)) (defScope (top 43)) .none kV_step_of_sign dc_step_of_sign pm_step_of_sign an_step_of_sign v_step_of_sign ct_step_of_sign), sl_step_of_sign⟩) (e_step_of_sign : PySem.W.codeIn K v_step_of_sign ("step_of_sign" : Str) = true) (k_step_of_sign : PySem.W.keepIn K (.ref f_step_of_sign) = true)
  {o__law_roll kV__law_roll dc__law_roll pm__law_roll ct__law_roll : Value} {od__law_roll an__law_roll : Option Addr} {sl__law_roll : Array (Option Value)}
  (a__law_roll : PySem.W.nsIn K mainGlobals ("_law_roll" : Str) = some (some (.ref f__law_roll))) (l__law_roll : K.lookup f__law_roll = some ⟨o__law_roll, od__law_roll, .func (PySem.W.fnOf ("_law_roll" : Str) ("_law_roll" : Str) (defArgs (top 46)) (defBody (top 46)) (defScope (top 46)) .none kV__law_roll dc__law_roll pm__law_roll an__law_roll v__law_roll ct__law_roll), sl__law_roll⟩) (e__law_roll : PySem.W.codeIn K v__law_roll ("_law_roll" : Str) = true) (k__law_roll : PySem.W.keepIn K (.ref f__law_roll) = true)
  {o__law_some kV__law_some dc__law_some pm__law_some ct__law_some : Value} {od__law_some an__law_some : Option Addr} {sl__law_some : Array (Option Value)}
  (a__law_some : PySem.W.nsIn K mainGlobals ("_law_some" : Str) = some (some (.ref f__law_some))) (l__law_some : K.lookup f__law_some = some ⟨o__law_some, od__law_some, .func (PySem.W.fnOf ("_law_some" : Str) ("_law_some" : Str) (defArgs (top 47)) (defBody (top 47)) (defScope (top 47)) .none kV__law_some dc__law_some pm__law_some an__law_some v__law_some ct__law_some), sl__law_some⟩) (e__law_some : PySem.W.codeIn K v__law_some ("_law_some" : Str) = true) (k__law_some : PySem.W.keepIn K (.ref f__law_some) = true)
  {o__law_sort kV__law_sort dc__law_sort pm__law_sort ct__law_sort : Value} {od__law_sort an__law_sort : Option Addr} {sl__law_sort : Array (Option Value)}
  (a__law_sort : PySem.W.nsIn K mainGlobals ("_law_sort" : Str) = some (some (.ref f__law_sort))) (l__law_sort : K.lookup f__law_sort = some ⟨o__law_sort, od__law_sort, .func (PySem.W.fnOf ("_law_sort" : Str) ("_law_sort" : Str) (defArgs (top 48)) (defBody (top 48)) (defScope (top 48)) .none kV__law_sort dc__law_sort pm__law_sort an__law_sort v__law_sort ct__law_sort), sl__law_sort⟩) (e__law_sort : PySem.W.codeIn K v__law_sort ("_law_sort" : Str) = true) (k__law_sort : PySem.W.keepIn K (.ref f__law_sort) = true)
  {o__law_like kV__law_like dc__law_like pm__law_like ct__law_like : Value} {od__law_like an__law_like : Option Addr} {sl__law_like : Array (Option Value)}
  (a__law_like : PySem.W.nsIn K mainGlobals ("_law_like" : Str) = some (some (.ref f__law_like))) (l__law_like : K.lookup f__law_like = some ⟨o__law_like, od__law_like, .func (PySem.W.fnOf ("_law_like" : Str) ("_law_like" : Str) (defArgs (top 49)) (defBody (top 49)) (defScope (top 49)) .none kV__law_like dc__law_like pm__law_like an__law_like v__law_like ct__law_like), sl__law_like⟩) (e__law_like : PySem.W.codeIn K v__law_like ("_law_like" : Str) = true) (k__law_like : PySem.W.keepIn K (.ref f__law_like) = true)
  {o__law_free kV__law_free dc__law_free pm__law_free ct__law_free : Value} {od__law_free an__law_free : Option Addr} {sl__law_free : Array (Option Value)}
  (a__law_free : PySem.W.nsIn K mainGlobals ("_law_free" : Str) = some (some (.ref f__law_free))) (l__law_free : K.lookup f__law_free = some ⟨o__law_free, od__law_free, .func (PySem.W.fnOf ("_law_free" : Str) ("_law_free" : Str) (defArgs (top 50)) (defBody (top 50)) (defScope (top 50)) .none kV__law_free dc__law_free pm__law_free an__law_free v__law_free ct__law_free), sl__law_free⟩) (e__law_free : PySem.W.codeIn K v__law_free ("_law_free" : Str) = true) (k__law_free : PySem.W.keepIn K (.ref f__law_free) = true)
  {o__law_bounds kV__law_bounds dc__law_bounds pm__law_bounds ct__law_bounds : Value} {od__law_bounds an__law_bounds : Option Addr} {sl__law_bounds : Array (Option Value)}
  (a__law_bounds : PySem.W.nsIn K mainGlobals ("_law_bounds" : Str) = some (some (.ref f__law_bounds))) (l__law_bounds : K.lookup f__law_bounds = some ⟨o__law_bounds, od__law_bounds, .func (PySem.W.fnOf ("_law_bounds" : Str) ("_law_bounds" : Str) (defArgs (top 51)) (defBody (top 51)) (defScope (top 51)) .none kV__law_bounds dc__law_bounds pm__law_bounds an__law_bounds v__law_bounds ct__law_bounds), sl__law_bounds⟩) (e__law_bounds : PySem.W.codeIn K v__law_bounds ("_law_bounds" : Str) = true) (k__law_bounds : PySem.W.keepIn K (.ref f__law_bounds) = true)
  {o__law_any_figure kV__law_any_figure dc__law_any_figure pm__law_any_figure ct__law_any_figure : Value} {od__law_any_figure an__law_any_figure : Option Addr} {sl__law_any_figure : Array (Option Value)}
  (a__law_any_figure : PySem.W.nsIn K mainGlobals ("_law_any_figure" : Str) = some (some (.ref f__law_any_figure))) (l__law_any_figure : K.lookup f__law_any_figure = some ⟨o__law_any_figure, od__law_any_figure, .func (PySem.W.fnOf ("_law_any_figure" : Str) ("_law_any_figure" : Str) (defArgs (top 52)) (defBody (top 52)) (defScope (top 52)) .none kV__law_any_figure dc__law_any_figure pm__law_any_figure an__law_any_figure v__law_any_figure ct__law_any_figure), sl__law_any_figure⟩) (e__law_any_figure : PySem.W.codeIn K v__law_any_figure ("_law_any_figure" : Str) = true) (k__law_any_figure : PySem.W.keepIn K (.ref f__law_any_figure) = true)
  {o__law_turned kV__law_turned dc__law_turned pm__law_turned ct__law_turned : Value} {od__law_turned an__law_turned : Option Addr} {sl__law_turned : Array (Option Value)}
  (a__law_turned : PySem.W.nsIn K mainGlobals ("_law_turned" : Str) = some (some (.ref f__law_turned))) (l__law_turned : K.lookup f__law_turned = some ⟨o__law_turned, od__law_turned, .func (PySem.W.fnOf ("_law_turned" : Str) ("_law_turned" : Str) (defArgs (top 53)) (defBody (top 53)) (defScope (top 53)) .none kV__law_turned dc__law_turned pm__law_turned an__law_turned v__law_turned ct__law_turned), sl__law_turned⟩) (e__law_turned : PySem.W.codeIn K v__law_turned ("_law_turned" : Str) = true) (k__law_turned : PySem.W.keepIn K (.ref f__law_turned) = true)
  {o__law_ahead kV__law_ahead dc__law_ahead pm__law_ahead ct__law_ahead : Value} {od__law_ahead an__law_ahead : Option Addr} {sl__law_ahead : Array (Option Value)}
  (a__law_ahead : PySem.W.nsIn K mainGlobals ("_law_ahead" : Str) = some (some (.ref f__law_ahead))) (l__law_ahead : K.lookup f__law_ahead = some ⟨o__law_ahead, od__law_ahead, .func (PySem.W.fnOf ("_law_ahead" : Str) ("_law_ahead" : Str) (defArgs (top 54)) (defBody (top 54)) (defScope (top 54)) .none kV__law_ahead dc__law_ahead pm__law_ahead an__law_ahead v__law_ahead ct__law_ahead), sl__law_ahead⟩) (e__law_ahead : PySem.W.codeIn K v__law_ahead ("_law_ahead" : Str) = true) (k__law_ahead : PySem.W.keepIn K (.ref f__law_ahead) = true)
  {o__law_signs kV__law_signs dc__law_signs pm__law_signs ct__law_signs : Value} {od__law_signs an__law_signs : Option Addr} {sl__law_signs : Array (Option Value)}
  (a__law_signs : PySem.W.nsIn K mainGlobals ("_law_signs" : Str) = some (some (.ref f__law_signs))) (l__law_signs : K.lookup f__law_signs = some ⟨o__law_signs, od__law_signs, .func (PySem.W.fnOf ("_law_signs" : Str) ("_law_signs" : Str) (defArgs (top 55)) (defBody (top 55)) (defScope (top 55)) .none kV__law_signs dc__law_signs pm__law_signs an__law_signs v__law_signs ct__law_signs), sl__law_signs⟩) (e__law_signs : PySem.W.codeIn K v__law_signs ("_law_signs" : Str) = true) (k__law_signs : PySem.W.keepIn K (.ref f__law_signs) = true)
  {o__law_odd_figures kV__law_odd_figures dc__law_odd_figures pm__law_odd_figures ct__law_odd_figures : Value} {od__law_odd_figures an__law_odd_figures : Option Addr} {sl__law_odd_figures : Array (Option Value)}
  (a__law_odd_figures : PySem.W.nsIn K mainGlobals ("_law_odd_figures" : Str) = some (some (.ref f__law_odd_figures))) (l__law_odd_figures : K.lookup f__law_odd_figures = some ⟨o__law_odd_figures, od__law_odd_figures, .func (PySem.W.fnOf ("_law_odd_figures" : Str) ("_law_odd_figures" : Str) (defArgs (top 56)) (defBody (top 56)) (defScope (top 56)) .none kV__law_odd_figures dc__law_odd_figures pm__law_odd_figures an__law_odd_figures v__law_odd_figures ct__law_odd_figures), sl__law_odd_figures⟩) (e__law_odd_figures : PySem.W.codeIn K v__law_odd_figures ("_law_odd_figures" : Str) = true) (k__law_odd_figures : PySem.W.keepIn K (.ref f__law_odd_figures) = true)
  {o__law_given kV__law_given dc__law_given pm__law_given ct__law_given : Value} {od__law_given an__law_given : Option Addr} {sl__law_given : Array (Option Value)}
  (a__law_given : PySem.W.nsIn K mainGlobals ("_law_given" : Str) = some (some (.ref f__law_given))) (l__law_given : K.lookup f__law_given = some ⟨o__law_given, od__law_given, .func (PySem.W.fnOf ("_law_given" : Str) ("_law_given" : Str) (defArgs (top 58)) (defBody (top 58)) (defScope (top 58)) .none kV__law_given dc__law_given pm__law_given an__law_given v__law_given ct__law_given), sl__law_given⟩) (e__law_given : PySem.W.codeIn K v__law_given ("_law_given" : Str) = true) (k__law_given : PySem.W.keepIn K (.ref f__law_given) = true)
  {o__law_right kV__law_right dc__law_right pm__law_right ct__law_right : Value} {od__law_right an__law_right : Option Addr} {sl__law_right : Array (Option Value)}
  (a__law_right : PySem.W.nsIn K mainGlobals ("_law_right" : Str) = some (some (.ref f__law_right))) (l__law_right : K.lookup f__law_right = some ⟨o__law_right, od__law_right, .func (PySem.W.fnOf ("_law_right" : Str) ("_law_right" : Str) (defArgs (top 59)) (defBody (top 59)) (defScope (top 59)) .none kV__law_right dc__law_right pm__law_right an__law_right (.ref c__law_right) ct__law_right), sl__law_right⟩) (e__law_right : PySem.W.codeIn K (.ref c__law_right) ("_law_right" : Str) = true) (k__law_right : PySem.W.keepIn K (.ref f__law_right) = true)
  {o__law_great_right kV__law_great_right dc__law_great_right pm__law_great_right ct__law_great_right : Value} {od__law_great_right an__law_great_right : Option Addr} {sl__law_great_right : Array (Option Value)}
  (a__law_great_right : PySem.W.nsIn K mainGlobals ("_law_great_right" : Str) = some (some (.ref f__law_great_right))) (l__law_great_right : K.lookup f__law_great_right = some ⟨o__law_great_right, od__law_great_right, .func (PySem.W.fnOf ("_law_great_right" : Str) ("_law_great_right" : Str) (defArgs (top 60)) (defBody (top 60)) (defScope (top 60)) .none kV__law_great_right dc__law_great_right pm__law_great_right an__law_great_right v__law_great_right ct__law_great_right), sl__law_great_right⟩) (e__law_great_right : PySem.W.codeIn K v__law_great_right ("_law_great_right" : Str) = true) (k__law_great_right : PySem.W.keepIn K (.ref f__law_great_right) = true)
  {o__law_errors_right kV__law_errors_right dc__law_errors_right pm__law_errors_right ct__law_errors_right : Value} {od__law_errors_right an__law_errors_right : Option Addr} {sl__law_errors_right : Array (Option Value)}
  (a__law_errors_right : PySem.W.nsIn K mainGlobals ("_law_errors_right" : Str) = some (some (.ref f__law_errors_right))) (l__law_errors_right : K.lookup f__law_errors_right = some ⟨o__law_errors_right, od__law_errors_right, .func (PySem.W.fnOf ("_law_errors_right" : Str) ("_law_errors_right" : Str) (defArgs (top 61)) (defBody (top 61)) (defScope (top 61)) .none kV__law_errors_right dc__law_errors_right pm__law_errors_right an__law_errors_right (.ref c__law_errors_right) ct__law_errors_right), sl__law_errors_right⟩) (e__law_errors_right : PySem.W.codeIn K (.ref c__law_errors_right) ("_law_errors_right" : Str) = true) (k__law_errors_right : PySem.W.keepIn K (.ref f__law_errors_right) = true)
  {o__law_cup kV__law_cup dc__law_cup pm__law_cup ct__law_cup : Value} {od__law_cup an__law_cup : Option Addr} {sl__law_cup : Array (Option Value)}
  (a__law_cup : PySem.W.nsIn K mainGlobals ("_law_cup" : Str) = some (some (.ref f__law_cup))) (l__law_cup : K.lookup f__law_cup = some ⟨o__law_cup, od__law_cup, .func (PySem.W.fnOf ("_law_cup" : Str) ("_law_cup" : Str) (defArgs (top 45)) (defBody (top 45)) (defScope (top 45)) .none kV__law_cup dc__law_cup pm__law_cup an__law_cup v__law_cup ct__law_cup), sl__law_cup⟩) (e__law_cup : PySem.W.codeIn K v__law_cup ("_law_cup" : Str) = true) (k__law_cup : PySem.W.keepIn K (.ref f__law_cup) = true)
  {o__law_error kV__law_error dc__law_error pm__law_error ct__law_error : Value} {od__law_error an__law_error : Option Addr} {sl__law_error : Array (Option Value)}
  (a__law_error : PySem.W.nsIn K mainGlobals ("_law_error" : Str) = some (some (.ref f__law_error))) (l__law_error : K.lookup f__law_error = some ⟨o__law_error, od__law_error, .func (PySem.W.fnOf ("_law_error" : Str) ("_law_error" : Str) (defArgs (top 57)) (defBody (top 57)) (defScope (top 57)) .none kV__law_error dc__law_error pm__law_error an__law_error v__law_error ct__law_error), sl__law_error⟩) (e__law_error : PySem.W.codeIn K v__law_error ("_law_error" : Str) = true) (k__law_error : PySem.W.keepIn K (.ref f__law_error) = true)
  {o_law kV_law dc_law pm_law ct_law : Value} {od_law an_law : Option Addr} {sl_law : Array (Option Value)}
  (a_law : PySem.W.nsIn K mainGlobals ("law" : Str) = some (some (.ref f_law))) (l_law : K.lookup f_law = some ⟨o_law, od_law, .func (PySem.W.fnOf ("law" : Str) ("law" : Str) (defArgs (top 62)) (defBody (top 62)) (defScope (top 62)) .none kV_law dc_law pm_law an_law v_law ct_law), sl_law⟩) (e_law : PySem.W.codeIn K v_law ("law" : Str) = true) (k_law : PySem.W.keepIn K (.ref f_law) = true)
  (Z__law_right : PySem.W.codeHdIn K c__law_right t__law_right = true ∧ t__law_right ∈ ts ∧ K.lookup t__law_right = none)
  (Z__law_errors_right : PySem.W.codeHdIn K c__law_errors_right t__law_errors_right = true ∧ t__law_errors_right ∈ ts ∧ K.lookup t__law_errors_right = none)
  (Q_1_0 : t__law_errors_right ≠ t__law_right)
  (aC0 : PySem.W.nsIn K mainGlobals ("FigureError" : Str) = some (some (.ref C0)))
  (aC1 : PySem.W.nsIn K mainGlobals ("InvalidNumber" : Str) = some (some (.ref C1)))
  (kC1 : PySem.W.keepIn K (.ref C1) = true) (qC1 : PySem.W.excIn K C1 [.type "ValueError", .type "Exception", .type "BaseException", .type "object"] "ValueError.__new__" = true) (sC1 : PySem.W.subIn K (.ref C1) (.type "BaseException") = some true) (yC1 : PySem.W.typeIn K (.ref C1) = some (.type "type"))
  (aC2 : PySem.W.nsIn K mainGlobals ("InvalidFigure" : Str) = some (some (.ref C2)))
  (kC2 : PySem.W.keepIn K (.ref C2) = true) (qC2 : PySem.W.excIn K C2 [.type "ValueError", .type "Exception", .type "BaseException", .type "object"] "ValueError.__new__" = true) (sC2 : PySem.W.subIn K (.ref C2) (.type "BaseException") = some true) (yC2 : PySem.W.typeIn K (.ref C2) = some (.type "type"))
  (aC3 : PySem.W.nsIn K mainGlobals ("InvalidName" : Str) = some (some (.ref C3)))
  (kC3 : PySem.W.keepIn K (.ref C3) = true) (qC3 : PySem.W.excIn K C3 [.type "ValueError", .type "Exception", .type "BaseException", .type "object"] "ValueError.__new__" = true) (sC3 : PySem.W.subIn K (.ref C3) (.type "BaseException") = some true) (yC3 : PySem.W.typeIn K (.ref C3) = some (.type "type"))
  (aC4 : PySem.W.nsIn K mainGlobals ("InvalidNumbers" : Str) = some (some (.ref C4)))
  (aC5 : PySem.W.nsIn K mainGlobals ("NotNow" : Str) = some (some (.ref C5)))
  (aC6 : PySem.W.nsIn K mainGlobals ("Unlucky" : Str) = some (some (.ref C6)))
  (aC7 : PySem.W.nsIn K mainGlobals ("TooMany" : Str) = some (some (.ref C7)))
  (eC1 : PySem.W.exmOne K (.ref C1) (.ref C0) = some true) (x0C1 : PySem.W.findIn K (.ref C1) "__getattribute__" = some (some (.builtin "BaseException.__getattribute__"))) (x1C1 : PySem.W.findIn K (.ref C1) "__getattr__" = some none) (x2C1 : PySem.W.hasDictIn K C1 = true) (x3C1 : PySem.W.findIn K (.ref C1) "__class__" = some (some (.builtin "object.__class__"))) (x4C1 : PySem.W.mroIn K C1 (.type "object") = some true) (iC1_0 : PySem.W.kitOne K (.ref C1) (.ref C0) = some true) (iC1_1 : PySem.W.kitOne K (.ref C1) (.ref C1) = some true) (iC1_2 : PySem.W.kitOne K (.ref C1) (.ref C2) = some false) (iC1_3 : PySem.W.kitOne K (.ref C1) (.ref C3) = some false) (iC1_4 : PySem.W.kitOne K (.ref C1) (.ref C4) = some false) (iC1_5 : PySem.W.kitOne K (.ref C1) (.ref C5) = some false) (iC1_6 : PySem.W.kitOne K (.ref C1) (.ref C6) = some false) (iC1_7 : PySem.W.kitOne K (.ref C1) (.ref C7) = some false)
  (eC2 : PySem.W.exmOne K (.ref C2) (.ref C0) = some true) (x0C2 : PySem.W.findIn K (.ref C2) "__getattribute__" = some (some (.builtin "BaseException.__getattribute__"))) (x1C2 : PySem.W.findIn K (.ref C2) "__getattr__" = some none) (x2C2 : PySem.W.hasDictIn K C2 = true) (x3C2 : PySem.W.findIn K (.ref C2) "__class__" = some (some (.builtin "object.__class__"))) (x4C2 : PySem.W.mroIn K C2 (.type "object") = some true) (iC2_0 : PySem.W.kitOne K (.ref C2) (.ref C0) = some true) (iC2_1 : PySem.W.kitOne K (.ref C2) (.ref C1) = some false) (iC2_2 : PySem.W.kitOne K (.ref C2) (.ref C2) = some true) (iC2_3 : PySem.W.kitOne K (.ref C2) (.ref C3) = some false) (iC2_4 : PySem.W.kitOne K (.ref C2) (.ref C4) = some false) (iC2_5 : PySem.W.kitOne K (.ref C2) (.ref C5) = some false) (iC2_6 : PySem.W.kitOne K (.ref C2) (.ref C6) = some false) (iC2_7 : PySem.W.kitOne K (.ref C2) (.ref C7) = some false)
  (eC3 : PySem.W.exmOne K (.ref C3) (.ref C0) = some true) (x0C3 : PySem.W.findIn K (.ref C3) "__getattribute__" = some (some (.builtin "BaseException.__getattribute__"))) (x1C3 : PySem.W.findIn K (.ref C3) "__getattr__" = some none) (x2C3 : PySem.W.hasDictIn K C3 = true) (x3C3 : PySem.W.findIn K (.ref C3) "__class__" = some (some (.builtin "object.__class__"))) (x4C3 : PySem.W.mroIn K C3 (.type "object") = some true) (iC3_0 : PySem.W.kitOne K (.ref C3) (.ref C0) = some true) (iC3_1 : PySem.W.kitOne K (.ref C3) (.ref C1) = some false) (iC3_2 : PySem.W.kitOne K (.ref C3) (.ref C2) = some false) (iC3_3 : PySem.W.kitOne K (.ref C3) (.ref C3) = some true) (iC3_4 : PySem.W.kitOne K (.ref C3) (.ref C4) = some false) (iC3_5 : PySem.W.kitOne K (.ref C3) (.ref C5) = some false) (iC3_6 : PySem.W.kitOne K (.ref C3) (.ref C6) = some false) (iC3_7 : PySem.W.kitOne K (.ref C3) (.ref C7) = some false)
  (y1 : PySem.W.specialIn K (.builtin "object.__class__") "__get__" = some (some (.builtin "getset_descriptor.__get__"))) (y2 : PySem.W.takesIn K (.builtin "object.__class__") = some true)
  (b_isinstance : PySem.W.nsIn K mainGlobals ("isinstance" : Str) = some none)
  (b_int : PySem.W.nsIn K mainGlobals ("int" : Str) = some none)
  (b_bool : PySem.W.nsIn K mainGlobals ("bool" : Str) = some none)
  (b_str : PySem.W.nsIn K mainGlobals ("str" : Str) = some none)
  (b_tuple : PySem.W.nsIn K mainGlobals ("tuple" : Str) = some none)
  (b_list : PySem.W.nsIn K mainGlobals ("list" : Str) = some none)
  (b_len : PySem.W.nsIn K mainGlobals ("len" : Str) = some none)
  (b_abs : PySem.W.nsIn K mainGlobals ("abs" : Str) = some none)
  (b_all : PySem.W.nsIn K mainGlobals ("all" : Str) = some none)
  (b_any : PySem.W.nsIn K mainGlobals ("any" : Str) = some none)
  (b_sum : PySem.W.nsIn K mainGlobals ("sum" : Str) = some none)
  (b_range : PySem.W.nsIn K mainGlobals ("range" : Str) = some none)
  (b_zip : PySem.W.nsIn K mainGlobals ("zip" : Str) = some none)
  (b_enumerate : PySem.W.nsIn K mainGlobals ("enumerate" : Str) = some none)
  (b_max : PySem.W.nsIn K mainGlobals ("max" : Str) = some none)
  (b_min : PySem.W.nsIn K mainGlobals ("min" : Str) = some none)
  (b_sorted : PySem.W.nsIn K mainGlobals ("sorted" : Str) = some none)
  (b_dict : PySem.W.nsIn K mainGlobals ("dict" : Str) = some none)
  (b_set : PySem.W.nsIn K mainGlobals ("set" : Str) = some none)
  (b_gcd : PySem.W.nsIn K mainGlobals "gcd" = some (some (.builtin "math.gcd")))
  {k_FAR : Tok} (K_FAR : PySem.W.nsIn K mainGlobals ("FAR" : Str) = some (some (.int 1000000 k_FAR)))
  {k_STEPS : Tok} (K_STEPS : PySem.W.nsIn K mainGlobals ("STEPS" : Str) = some (some (.int 16 k_STEPS)))
  {k_FREE : Tok} (K_FREE : PySem.W.nsIn K mainGlobals ("FREE" : Str) = some (some (.int 8 k_FREE)))
  {k_NEAR : Tok} (K_NEAR : PySem.W.nsIn K mainGlobals ("NEAR" : Str) = some (some (.int 1000 k_NEAR)))
  {k_LETTERS : Tok} (K_LETTERS : PySem.W.nsIn K mainGlobals ("LETTERS" : Str) = some (some (.str ("ABCDEFGHIJKLMNOPQRSTUVWXYZ" : Str) k_LETTERS)))
  {a_KINDS : Addr} (K_KINDS : PySem.W.nsIn K mainGlobals ("KINDS" : Str) = some (some (.ref a_KINDS))) (U_KINDS : He.dicW K a_KINDS = some (He.keysIn w.params [("free" : Str), ("on line" : Str), ("on ring" : Str), ("middle" : Str), ("meet" : Str), ("foot" : Str), ("mirror" : Str)])) (V_KINDS : dicD K a_KINDS = some [some (("free" : Str), .int 0), some (("on line" : Str), .int 2), some (("on ring" : Str), .int 2), some (("middle" : Str), .int 2), some (("meet" : Str), .int 4), some (("foot" : Str), .int 3), some (("mirror" : Str), .int 3)])
  {a_MORE : Addr} (K_MORE : PySem.W.nsIn K mainGlobals ("MORE" : Str) = some (some (.ref a_MORE))) (U_MORE : He.dicW K a_MORE = some (He.keysIn w.params [("past" : Str), ("turned" : Str), ("second" : Str), ("round" : Str), ("rings" : Str)])) (V_MORE : dicD K a_MORE = some [some (("past" : Str), .int 3), some (("turned" : Str), .int 2), some (("second" : Str), .int 3), some (("round" : Str), .int 3), some (("rings" : Str), .int 3)])
  {a_NUMBERS : Addr} (K_NUMBERS : PySem.W.nsIn K mainGlobals ("NUMBERS" : Str) = some (some (.ref a_NUMBERS))) (U_NUMBERS : He.dicW K a_NUMBERS = some (He.keysIn w.params [("free" : Str), ("on line" : Str), ("on ring" : Str)])) (V_NUMBERS : dicD K a_NUMBERS = some [some (("free" : Str), .int 2), some (("on line" : Str), .int 1), some (("on ring" : Str), .int 1)])
  (hplain : ∀ ns : List Int, ns.length ≤ 63 → ∃ u', evSs wds "" (run wds "" prog 16) s_law (lawEnv n_law.length) (cup0 ns) = .ret (.bl true) u') :
  LawAtS PySem.Challenge.rw_figuresproved_k09_whole_free_signs w K (L2N.CX PySem.Challenge.rw_figuresproved_k09_whole_free_signs.prog w) (3 * 16 + 3) 63 "script" mg fa h :=
  at_ KX G hfa Y (DF.mk' a_is_whole l_is_whole e_is_whole k_is_whole) (DF.mk' a_need_whole l_need_whole e_need_whole k_need_whole) (DF.mk' a_is_tuple_of l_is_tuple_of e_is_tuple_of k_is_tuple_of) (DF.mk' a_is_fraction l_is_fraction e_is_fraction k_is_fraction) (DF.mk' a_is_portion l_is_portion e_is_portion k_is_portion) (DF.mk' a_is_name l_is_name e_is_name k_is_name) (DF.mk' a_args_of l_args_of e_args_of k_args_of) (DF.mk' a_near l_near e_near k_near) (DF.mk' a_is_step l_is_step e_is_step k_is_step) (DF.mk' a_is_figure l_is_figure e_is_figure k_is_figure) (DF.mk' a_count_free l_count_free e_count_free k_count_free) (DF.mk' a_need_figure l_need_figure e_need_figure k_need_figure) (DF.mk' a_name_list l_name_list e_name_list k_name_list) (DF.mk' a_first_number l_first_number e_first_number k_first_number) (DF.mk' a_step_of l_step_of e_step_of k_step_of) (DF.mk' a_points_of_step l_points_of_step e_points_of_step k_points_of_step) (DF.mk' a_ahead_of l_ahead_of e_ahead_of k_ahead_of) (DF.mk' a_signs_of l_signs_of e_signs_of k_signs_of) (DF.mk' a_own_signs l_own_signs e_own_signs k_own_signs) (DF.mk' a_signs_behind l_signs_behind e_signs_behind k_signs_behind) (DF.mk' a_steps_ahead l_steps_ahead e_steps_ahead k_steps_ahead) (DF.mk' a_step_of_sign l_step_of_sign e_step_of_sign k_step_of_sign) (DF.mk' a__law_roll l__law_roll e__law_roll k__law_roll) (DF.mk' a__law_some l__law_some e__law_some k__law_some) (DF.mk' a__law_sort l__law_sort e__law_sort k__law_sort) (DF.mk' a__law_like l__law_like e__law_like k__law_like) (DF.mk' a__law_free l__law_free e__law_free k__law_free) (DF.mk' a__law_bounds l__law_bounds e__law_bounds k__law_bounds) (DF.mk' a__law_any_figure l__law_any_figure e__law_any_figure k__law_any_figure) (DF.mk' a__law_turned l__law_turned e__law_turned k__law_turned) (DF.mk' a__law_ahead l__law_ahead e__law_ahead k__law_ahead) (DF.mk' a__law_signs l__law_signs e__law_signs k__law_signs) (DF.mk' a__law_odd_figures l__law_odd_figures e__law_odd_figures k__law_odd_figures) (DF.mk' a__law_given l__law_given e__law_given k__law_given) (DF.mk' a__law_right l__law_right e__law_right k__law_right) (DF.mk' a__law_great_right l__law_great_right e__law_great_right k__law_great_right) (DF.mk' a__law_errors_right l__law_errors_right e__law_errors_right k__law_errors_right) (DF.mk' a__law_cup l__law_cup e__law_cup k__law_cup) (DF.mk' a__law_error l__law_error e__law_error k__law_error) (DF.mk' a_law l_law e_law k_law) Z__law_right.1 Z__law_right.2.2 Z__law_right.2.1 Z__law_errors_right.1 Z__law_errors_right.2.2 Z__law_errors_right.2.1 Q_1_0 aC0 aC1 kC1 qC1 sC1 yC1 aC2 kC2 qC2 sC2 yC2 aC3 kC3 qC3 sC3 yC3 aC4 aC5 aC6 aC7 eC1 ⟨x0C1, x1C1, sC1, x2C1, x3C1, y1, y2, x4C1⟩ iC1_0 iC1_1 iC1_2 iC1_3 iC1_4 iC1_5 iC1_6 iC1_7 eC2 ⟨x0C2, x1C2, sC2, x2C2, x3C2, y1, y2, x4C2⟩ iC2_0 iC2_1 iC2_2 iC2_3 iC2_4 iC2_5 iC2_6 iC2_7 eC3 ⟨x0C3, x1C3, sC3, x2C3, x3C3, y1, y2, x4C3⟩ iC3_0 iC3_1 iC3_2 iC3_3 iC3_4 iC3_5 iC3_6 iC3_7 b_isinstance b_int b_bool b_str b_tuple b_list b_len b_abs b_all b_any b_sum b_range b_zip b_enumerate b_max b_min b_sorted b_dict b_set b_gcd K_FAR K_STEPS K_FREE K_NEAR K_LETTERS K_KINDS U_KINDS V_KINDS K_MORE U_MORE V_MORE K_NUMBERS U_NUMBERS V_NUMBERS hplain
end K09

namespace K09
open Ev PySem
abbrev R (n : Nat) := Ev.run wds NW_ prog n
/-! ### draws -/
theorem roll_ok {n : Nat} {m : Int} {u : Cup} (hm : 0 < m) (hb : m.natAbs.log2 < 9000) : ∃ z u', R (n + 1) 22 [.cup, .int m] u = .ok (.int z) u' ∧ 0 ≤ z ∧ z < m := by
  obtain ⟨u1, u2⟩ := u
  have l47 : Nat.log2 47 < 9000 := by decide +kernel
  by_cases h : 0 < u1
  · refine ⟨u1 % m, (u1 / m, u2), ?_, Int.emod_nonneg _ (by omega), Int.emod_lt_of_pos _ hm⟩
    refine (run_succ d_law_roll rfl rfl).trans ?_
    simp [d_law_roll, evSs, evS, evE, evL, ofRe, Re.bind, Ev.start, ixR, ixC, L2.atI, L2.ixN, lift, cmpV, binV, biV, h, hm, hb, after, D.flat, Ex.fresh, D.ownable, D.isBox, mulOk, SR.fin]
  · refine ⟨(u2 * 137 + 2441) % 99833 / 47 % m, (u1, (u2 * 137 + 2441) % 99833), ?_, Int.emod_nonneg _ (by omega), Int.emod_lt_of_pos _ hm⟩
    refine (run_succ d_law_roll rfl rfl).trans ?_
    simp [d_law_roll, evSs, evS, evE, evL, ofRe, Re.bind, Ev.start, ixR, ixC, L2.atI, L2.ixN, lift, cmpV, binV, biV, h, hm, hb, after, D.flat, Ex.fresh, D.ownable, D.isBox, mulOk, SR.fin, l47]
theorem roll_sm {n : Nat} {m : Int} {u : Cup} (hm : 0 < m) (hb : m < 1000) : ∃ z u', R (n + 1) 22 [.cup, .int m] u = .ok (.int z) u' ∧ 0 ≤ z ∧ z < m := roll_ok hm (log9 (b := 10) (by omega) (by decide) (by decide))
theorem some_ok {n : Nat} {xs : List D} {u : Cup} (h0 : 0 < xs.length) (h1 : xs.length < 1000) : ∃ d u', R (n + 2) 23 [.cup, .lst xs] u = .ok d u' ∧ d ∈ xs := by
  obtain ⟨z, u', e, z0, z1⟩ := roll_sm (n := n) (m := (xs.length : Int)) (u := u) (by omega) (by omega)
  obtain ⟨d, e1, e2⟩ := atI_get (xs := xs) z0 z1
  refine ⟨d, u', ?_, e2⟩
  refine (run_succ d_law_some rfl rfl).trans ?_
  simp only [R] at e
  simp [d_law_some, evSs, evS, evE, evL, ofRe, Re.bind, Ev.start, ixR, ixV, lift, biV, e, e1, after, D.flat, Ex.fresh, D.ownable, SR.fin]
section
variable {n : Nat} {u : Cup}
/-! ### small tests -/
theorem istup {xs : List D} {lo hi : Int} : R (n + 1) 2 [.tup xs, .int lo, .int hi] u = .ok (.bl (decide (lo ≤ xs.length) && decide ((xs.length : Int) ≤ hi))) u := by
  refine (run_succ d_is_tuple_of rfl rfl).trans ?_
  by_cases h : lo ≤ (xs.length : Int)
  · simp [d_is_tuple_of, evSs, evS, evE, evL, evB, ofRe, Re.bind, Ev.start, lift, biV, cmpV, isiV, SR.fin, h]
    by_cases h2 : (xs.length : Int) ≤ hi <;> simp [h2]
  · simp [d_is_tuple_of, evSs, evS, evE, evL, evB, ofRe, Re.bind, Ev.start, lift, biV, cmpV, isiV, SR.fin, h]
theorem istup_no {xs : List D} {lo hi : D} : R (n + 1) 2 [.lst xs, lo, hi] u = .ok (.bl false) u := by
  refine (run_succ d_is_tuple_of rfl rfl).trans ?_
  simp [d_is_tuple_of, evSs, evS, evE, evL, evB, ofRe, Re.bind, Ev.start, lift, biV, cmpV, isiV, SR.fin]
theorem iswhole {i lo hi : Int} : R (n + 1) 0 [.int i, .int lo, .int hi] u = .ok (.bl (decide (lo ≤ i) && decide (i ≤ hi))) u := by
  refine (run_succ d_is_whole rfl rfl).trans ?_
  by_cases h : lo ≤ i
  · by_cases h2 : i ≤ hi <;> simp [d_is_whole, evSs, evS, evE, evL, evB, ofRe, Re.bind, Ev.start, lift, biV, cmpV, isiV, SR.fin, h, h2]
  · simp [d_is_whole, evSs, evS, evE, evL, evB, ofRe, Re.bind, Ev.start, lift, biV, cmpV, isiV, SR.fin, h]
/-! ### names -/
def QW : List Str := ["A", "B", "C", "D", "E", "F", "G", "H", "I", "J", "K", "L", "M", "N", "O", "P", "Q", "R", "S", "T", "U", "V", "W", "X", "Y", "Z"]
theorem name_ok {x : Str} (h : x ∈ QW) : R (n + 1) 5 [.str x] u = .ok (.bl true) u := by
  simp only [QW, List.mem_cons, List.not_mem_nil, or_false] at h
  rcases h with rfl | rfl | rfl | rfl | rfl | rfl | rfl | rfl | rfl | rfl | rfl | rfl | rfl | rfl | rfl | rfl | rfl | rfl | rfl | rfl | rfl | rfl | rfl | rfl | rfl | rfl <;> kernel_rfl
theorem so_QW {a : Str} (h : a ∈ QW) : SO a := by
  have k : ∀ a ∈ QW, SO a := by decide +kernel
  exact k a h
/-! ### fractions near 0 -/
def fr (p : Int × Int) : D := .tup [.int p.1, .int p.2]
structure Near (p : Int × Int) : Prop where
  lo : -1000 ≤ p.1
  hi : p.1 ≤ 1000
  b1 : 1 ≤ p.2
  b2 : p.2 ≤ 1000
  cop : Nat.gcd p.1.natAbs p.2.natAbs = 1
theorem frac_ok {p : Int × Int} (h1 : 1 ≤ p.2) (hg : Nat.gcd p.1.natAbs p.2.natAbs = 1) : R (n + 2) 3 [fr p] u = .ok (.bl true) u := by
  have e : R (n + 1) 2 [fr p, .int 2, .int 2] u = .ok (.bl true) u := istup
  simp only [R] at e
  refine (run_succ d_is_fraction rfl rfl).trans ?_
  have g1 : ((Nat.gcd p.1.natAbs p.2.natAbs : Nat) : Int) = 1 := by rw [hg]; rfl
  unfold fr at e ⊢
  simp [d_is_fraction, evSs, evS, evE, evL, evB, ofRe, Re.bind, Ev.start, lift, SR.fin, e, D.items, lcLoop, Tg.put, wipeE, isiV, noExc, optCons, biV, bls, big, ixR, ixV, L2.atI, L2.ixN, geI, h1, eq_I, g1]
theorem portion_ok {p : Int × Int} (h : Near p) : R (n + 3) 4 [fr p] u = .ok (.bl true) u := by
  have e1 : R (n + 2) 3 [fr p] u = .ok (.bl true) u := frac_ok h.b1 h.cop
  have e2 : R (n + 2) 0 [.int p.1, .int (-1000000), .int 1000000] u = .ok (.bl true) u := by
    refine iswhole.trans ?_
    have := h.lo
    have := h.hi
    simp
    omega
  have b2 : p.2 ≤ 1000000 := by have := h.b2; omega
  simp only [R] at e1 e2
  refine (run_succ d_is_portion rfl rfl).trans ?_
  unfold fr at e1 ⊢
  simp [d_is_portion, evSs, evS, evE, evL, evB, ofRe, Re.bind, Ev.start, lift, SR.fin, e1, e2, ixR, ixV, L2.atI, L2.ixN, leI, b2]
theorem near_ok {p : Int × Int} (h : Near p) : R (n + 4) 7 [fr p] u = .ok (.bl true) u := by
  have e1 : R (n + 3) 4 [fr p] u = .ok (.bl true) u := portion_ok h
  have a1 : (if p.1 < 0 then -p.1 else p.1) ≤ 1000 := by
    have := h.lo
    have := h.hi
    split <;> omega
  simp only [R] at e1
  refine (run_succ d_near rfl rfl).trans ?_
  unfold fr at e1 ⊢
  simp [d_near, evSs, evS, evE, evL, evB, ofRe, Re.bind, Ev.start, lift, SR.fin, e1, ixR, ixV, L2.atI, L2.ixN, leI, h.b2, biV, a1]
/-! ### steps -/
structure Stp where
  nm : Str
  kd : Str
  ar : List D
def stD (s : Stp) : D := .tup [.str s.nm, .str s.kd, .tup s.ar]
def KDS : List (Str × Nat) := [("free", 0), ("on line", 2), ("on ring", 2), ("middle", 2), ("meet", 4), ("foot", 3), ("mirror", 3), ("past", 3), ("turned", 2), ("second", 3), ("round", 3), ("rings", 3)]
theorem args_ok {k : Str} {m : Nat} (h : (k, m) ∈ KDS) : R (n + 1) 6 [.str k] u = .ok (.int m) u ∧ k ≠ "fixed" ∧ SO k := by
  simp only [KDS, List.mem_cons, List.not_mem_nil, or_false, Prod.mk.injEq] at h
  rcases h with h | h | h | h | h | h | h | h | h | h | h | h <;> (obtain ⟨rfl, rfl⟩ := h; exact ⟨by kernel_rfl, by decide, by decide +kernel⟩)
theorem so_fixed : SO "fixed" := by decide +kernel
/-- a good step behind names -/
inductive OkS (ns : List Str) (s : Stp) : Prop where
  | fx (p q : Int × Int) (hp : Near p) (hq : Near q) (hk : s.kd = "fixed") (ha : s.ar = [fr p, fr q])
  | kd (m : Nat) (h : (s.kd, m) ∈ KDS) (as : List Str) (ha : s.ar = as.map .str) (hl : as.length = m) (hm : ∀ a ∈ as, a ∈ ns)
theorem kds_le {k : Str} {m : Nat} (h : (k, m) ∈ KDS) : m ≤ 4 := by
  simp only [KDS, List.mem_cons, List.not_mem_nil, or_false, Prod.mk.injEq] at h
  omega
theorem step_ok {ns : List Str} {s : Stp} (h : OkS ns s) (hn : s.nm ∈ QW) (hnn : s.nm ∉ ns) (hq : ∀ a ∈ ns, a ∈ QW) : R (n + 5) 8 [stD s, .lst (ns.map .str)] u = .ok (.bl true) u := by
  have e1 : R (n + 4) 2 [stD s, .int 3, .int 3] u = .ok (.bl true) u := istup
  have e2 : R (n + 4) 5 [.str s.nm] u = .ok (.bl true) u := name_ok hn
  have i0 : ixR (stD s) (.int 0) u = .ok (.str s.nm) u := rfl
  have i1 : ixR (stD s) (.int 1) u = .ok (.str s.kd) u := rfl
  have i2 : ixR (stD s) (.int 2) u = .ok (.tup s.ar) u := rfl
  simp only [R] at e1 e2
  refine (run_succ d_is_step rfl rfl).trans ?_
  cases h with
  | fx p q hp hq hk ha =>
    have e3 : R (n + 4) 2 [.tup s.ar, .int 2, .int 2] u = .ok (.bl true) u := by
      rw [ha]
      exact istup
    have e4 : ∀ d ∈ s.ar, R (n + 4) 7 [d] u = .ok (.bl true) u := fun d hd => by
      rw [ha] at hd
      simp only [List.mem_cons, List.not_mem_nil, or_false] at hd
      rcases hd with rfl | rfl
      · exact near_ok hp
      · exact near_ok hq
    have lb : s.ar.length ≤ big := by
      rw [ha]
      show 2 ≤ 16777216
      decide
    simp only [R] at e3 e4
    simp [d_is_step, evSs, evS, evE, evL, evB, ofRe, Re.bind, Ev.start, lift, SR.fin, e1, e2, i0, i1, i2, in_L, hnn, isiV, eq_S so_fixed so_fixed, hk, e3, D.items]
    rw [lc_map (g := fun _ => .bl true) fun d hd => ?_]
    · simp [noExc, lb, all_true]
    · simp [Tg.put, wipeE, e4 d hd]
  | kd m hk as ha hl hm =>
    obtain ⟨a1, a2, a3⟩ := args_ok (n := n + 3) (u := u) hk
    have e3 : R (n + 4) 2 [.tup s.ar, .int m, .int m] u = .ok (.bl true) u := by
      rw [ha]
      refine istup.trans ?_
      simp [hl]
    have e4 : ∀ d ∈ s.ar, ∃ a, d = .str a ∧ a ∈ ns := fun d hd => by
      rw [ha] at hd
      obtain ⟨a, h1, rfl⟩ := List.mem_map.mp hd
      exact ⟨a, rfl, hm a h1⟩
    have e5 : ∀ a ∈ ns, R (n + 4) 5 [.str a] u = .ok (.bl true) u := fun a ha => name_ok (hq a ha)
    have lb : s.ar.length ≤ big := by
      rw [ha, List.length_map, hl]
      have := kds_le hk
      have : big = 16777216 := rfl
      omega
    have isn : cmpV .Is (.int m) .non = some (.bl false) := rfl
    simp only [R] at a1 e3 e5
    simp [d_is_step, evSs, evS, evE, evL, evB, ofRe, Re.bind, Ev.start, lift, SR.fin, e1, e2, i0, i1, i2, in_L, hnn, isiV, eq_S a3 so_fixed, a2, a1, e3, D.items, after, D.flat, isn, Ex.fresh]
    rw [lc_map (g := fun _ => .bl true) fun d hd => ?_]
    · simp [noExc, lb, all_true]
    · obtain ⟨a, rfl, h1⟩ := e4 d hd
      simp [Tg.put, wipeE, e5 a h1, in_L, h1]
/-- a good figure behind names -/
def Good : List Str → List Stp → Prop
  | _, [] => True
  | ns, s :: r => s.nm ∈ QW ∧ s.nm ∉ ns ∧ OkS ns s ∧ Good (ns ++ [s.nm]) r
def nms (S : List Stp) : List Str := S.map (·.nm)
def fgD (S : List Stp) : D := .tup (S.map stD)
def numT : List (Str × D) := [(PySem.Str.ofString "free", (.int 2)), (PySem.Str.ofString "on line", (.int 1)), (PySem.Str.ofString "on ring", (.int 1))]
def num (s : Stp) : Int := match (numT.lookup s.kd).getD (.int 0) with | .int i => i | _ => 0
theorem num_get (s : Stp) : (numT.lookup s.kd).getD (.int 0) = .int (num s) := by
  unfold num
  simp only [numT, List.lookup_cons, List.lookup_nil]
  split <;> first | rfl | (split <;> first | rfl | (split <;> rfl))
theorem num_pos (s : Stp) : 0 ≤ num s ∧ num s ≤ 2 := by
  unfold num
  simp only [numT, List.lookup_cons, List.lookup_nil]
  split
  · rename_i z
    split at z <;> (first | (cases z; decide) | (split at z <;> (first | (cases z; decide) | (split at z <;> (cases z; decide)))))
  · decide
def nums (S : List Stp) : Int := (S.map num).sum
theorem count_ok {S : List Stp} (hb : S.length ≤ big) : R (n + 1) 10 [fgD S] u = .ok (.int (nums S)) u := by
  refine (run_succ d_count_free rfl rfl).trans ?_
  have am : allI (S.map fun s => D.int (num s)) = some (S.map num) := by
    have e : (S.map fun s => D.int (num s)) = (S.map num).map D.int := by simp
    rw [e, allI_int]
  simp [d_count_free, evSs, evS, evE, evL, evB, ofRe, Re.bind, Ev.start, lift, SR.fin, D.items, fgD]
  rw [lc_mapG (g := fun s => .int (num s)) fun s hs => ?_]
  · simp [noExc, hb, biV, am, nums]
  · have g := num_get s
    unfold numT at g
    simp [Tg.put, Tg.puts, wipeE, stD, kgetV, g]
theorem names_ok {S : List Stp} (hb : S.length ≤ big) : R (n + 1) 12 [fgD S] u = .ok (.lst ((nms S).map .str)) u := by
  refine (run_succ d_name_list rfl rfl).trans ?_
  simp [d_name_list, evSs, evS, evE, evL, evB, ofRe, Re.bind, Ev.start, lift, SR.fin, D.items, fgD]
  rw [lc_mapG (g := fun s : Stp => .str s.nm) fun s hs => ?_]
  · simp [noExc, hb, nms]
  · simp [Tg.put, Tg.puts, wipeE, stD]
/-- the loop of is_figure -/
abbrev figB : List Sx := match d_is_figure.body.getD 2 .pass with
  | .for_ _ _ b => b
  | _ => []
theorem fig_loop {v : D} : ∀ (S : List Stp) (ns : List Str) (t : Sl), ns.length + S.length ≤ 100 → Good ns S → (∀ a ∈ ns, a ∈ QW) →
    ∃ t', forLoop (turnS wds NW_ (R (n + 5)) (.n 2) figB) (S.map stD) [some (false, v), some (true, .lst (ns.map .str)), t] u = .next [some (false, v), some (true, .lst ((ns ++ nms S).map .str)), t'] u
  | [], ns, t, _, _, _ => ⟨t, by simp [forLoop, nms]⟩
  | s :: S, ns, t, hl, h, hq => by
    obtain ⟨h1, h2, h3, h4⟩ := h
    have hl' : ns.length + (S.length + 1) ≤ 100 := by simpa using hl
    have hq' : ∀ a ∈ ns ++ [s.nm], a ∈ QW := fun a ha => by
      rcases List.mem_append.mp ha with z | z
      · exact hq a z
      · rw [List.mem_singleton.mp z]
        exact h1
    obtain ⟨t', e⟩ := fig_loop (v := v) S (ns ++ [s.nm]) (some (false, stD s)) (by simp; omega) h4 hq'
    refine ⟨t', ?_⟩
    have so : R (n + 5) 8 [stD s, .lst (ns.map .str)] u = .ok (.bl true) u := step_ok h3 h1 h2 hq
    have i0 : ixR (stD s) (.int 0) u = .ok (.str s.nm) u := rfl
    have lb : ns.length < big := by
      have : big = 16777216 := rfl
      omega
    simp only [R] at so
    have turn : turnS wds NW_ (R (n + 5)) (.n 2) figB (stD s) [some (false, v), some (true, .lst (ns.map .str)), t] u = .next [some (false, v), some (true, .lst ((ns ++ [s.nm]).map .str)), some (false, stD s)] u := by
      simp [turnS, Tg.put, figB, d_is_figure, evSs, evS, evE, evL, ofRe, Re.bind, so, i0, D.flat, lb]
    rw [List.map_cons, forLoop, turn]
    refine e.trans ?_
    simp [nms]
theorem fig_ok {S : List Stp} (h : Good [] S) (h1 : 1 ≤ S.length) (h2 : S.length ≤ 16) (h8 : nums S ≤ 8) : R (n + 6) 9 [fgD S] u = .ok (.bl true) u := by
  have e1 : R (n + 5) 2 [fgD S, .int 1, .int 16] u = .ok (.bl true) u := by
    refine istup.trans ?_
    simp
    omega
  have lb : S.length ≤ big := by
    have : big = 16777216 := rfl
    omega
  have e2 : R (n + 5) 10 [fgD S] u = .ok (.int (nums S)) u := count_ok lb
  obtain ⟨t', e⟩ := fig_loop (n := n) (u := u) (v := fgD S) S [] none (by simp; omega) h (fun a ha => by cases ha)
  have ef : evS wds NW_ (R (n + 5)) (.for_ (.n 2) (.v 0) figB) [some (false, fgD S), some (true, .lst []), none] u = .next [some (false, fgD S), some (true, .lst ((nms S).map .str)), t'] u := by
    rw [evS_for]
    simp only [evE, Re.bind, ofRe, Ex.fv, fgD, D.items, List.getElem?_cons_zero]
    exact e
  simp only [R] at e1 e2 ef
  refine (run_succ d_is_figure rfl rfl).trans ?_
  simp only [d_is_figure, evSs]
  have s1 : evS wds NW_ (Ev.run wds NW_ prog (n + 5)) (.ite (.not (.call 2 [(.v 0), (.c (.int 1)), (.g (PySem.Str.ofString "STEPS") (.int 16))])) [(.ret (.c (.bl false)))] []) (Ev.start [fgD S] 3) u = .next [some (false, fgD S), none, none] u := by
    simp [evS, evSs, evE, evL, ofRe, Re.bind, Ev.start, e1]
  have s2 : evS wds NW_ (Ev.run wds NW_ prog (n + 5)) (.set 1 (.lst [])) [some (false, fgD S), none, none] u = .next [some (false, fgD S), some (true, .lst []), none] u := by
    simp [evS, evE, evL, ofRe, Re.bind, after, D.flat, Ex.fresh, D.ownable, D.isBox, D.flats, D.its, big]
  rw [s1]
  simp only []
  rw [s2]
  simp only []
  have ef' := ef
  simp only [figB, d_is_figure, List.getD_cons_succ, List.getD_cons_zero] at ef'
  rw [ef']
  simp [evS, evE, evL, ofRe, Re.bind, e2, lift, leI, h8, SR.fin]
theorem need_ok {S : List Stp} (h : Good [] S) (h1 : 1 ≤ S.length) (h2 : S.length ≤ 16) (h8 : nums S ≤ 8) : R (n + 7) 11 [fgD S] u = .ok .non u := by
  have e : R (n + 6) 9 [fgD S] u = .ok (.bl true) u := fig_ok h h1 h2 h8
  simp only [R] at e
  refine (run_succ d_need_figure rfl rfl).trans ?_
  simp [d_need_figure, evSs, evS, evE, evL, ofRe, Re.bind, Ev.start, SR.fin, e]
/-! ### good figures -/
theorem good_names : ∀ {S : List Stp} {ns : List Str}, Good ns S → ns.Nodup → (ns ++ nms S).Nodup ∧ ∀ a ∈ nms S, a ∈ QW
  | [], ns, _, h => by
    simp [nms]
    exact h
  | s :: S, ns, ⟨h1, h2, _, h4⟩, h => by
    have nd : (ns ++ [s.nm]).Nodup := by
      rw [List.nodup_append]
      exact ⟨h, by simp, fun a ha b hb => by
        rw [List.mem_singleton.mp hb]
        exact fun e => h2 (e ▸ ha)⟩
    obtain ⟨r1, r2⟩ := good_names h4 nd
    refine ⟨by simpa [nms] using r1, fun a ha => ?_⟩
    have ha : a = s.nm ∨ a ∈ nms S := by simpa [nms] using ha
    rcases ha with rfl | ha
    · exact h1
    · exact r2 a ha
structure Fig (S : List Stp) : Prop where
  g : Good [] S
  l1 : 1 ≤ S.length
  l2 : S.length ≤ 16
  n8 : nums S ≤ 8
theorem Fig.nd {S : List Stp} (h : Fig S) : (nms S).Nodup := by
  have z := (good_names h.g List.nodup_nil).1
  simpa using z
theorem Fig.qw {S : List Stp} (h : Fig S) : ∀ a ∈ nms S, a ∈ QW := (good_names h.g List.nodup_nil).2
theorem Fig.big {S : List Stp} (h : Fig S) : S.length ≤ Ev.big := by
  have : Ev.big = 16777216 := rfl
  have := h.l2
  omega
theorem need_fig {S : List Stp} (h : Fig S) : R (n + 7) 11 [fgD S] u = .ok .non u := need_ok h.g h.l1 h.l2 h.n8
theorem oks_so {ns : List Str} {s : Stp} (h : OkS ns s) : SO s.kd := by
  cases h with
  | fx p q hp hq hk ha => rw [hk]; exact so_fixed
  | kd m hk as ha hl hm => exact (args_ok (n := 0) (u := (0, 0)) hk).2.2
/-- its arguments are texts where it is not fixed -/
theorem oks_strs {ns : List Str} {s : Stp} (h : OkS ns s) (hk : s.kd ≠ "fixed") : ∃ as : List Str, s.ar = as.map .str ∧ as.length ≤ 4 ∧ ∀ a ∈ as, a ∈ ns := by
  cases h with
  | fx p q hp hq hk' ha => exact absurd hk' hk
  | kd m hk as ha hl hm => exact ⟨as, ha, by rw [hl]; exact kds_le hk, hm⟩
theorem stepof_ok {S : List Stp} (h : Fig S) {i : Nat} {x : Str} (hx : (nms S)[i]? = some x) : R (n + 8) 14 [fgD S, .str x] u = .ok (.int i) u := by
  have hm : x ∈ nms S := List.mem_of_getElem? hx
  have e1 : R (n + 7) 11 [fgD S] u = .ok .non u := need_fig h
  have e2 : R (n + 7) 12 [fgD S] u = .ok (.lst ((nms S).map .str)) u := names_ok h.big
  have e3 : R (n + 7) 5 [.str x] u = .ok (.bl true) u := name_ok (h.qw x hm)
  have e4 : idxV (.lst ((nms S).map .str)) (.str x) = some (.int i) := idx_S h.nd hx
  have av : ∀ env : En, after (.call 12 [.v 0]) (.lst ((nms S).map .str)) [some (false, fgD S), some (false, .str x), none] = [some (false, fgD S), some (false, .str x), none] := fun _ => by
    simp [after, freeze, frz, Ex.fv, Ex.fvs, D.flat, Ex.fresh]
  simp only [R] at e1 e2 e3
  refine (run_succ d_step_of rfl rfl).trans ?_
  simp [d_step_of, evSs, evS, evE, evL, evB, ofRe, Re.bind, Ev.start, SR.fin, e1, e2, e3, nin_L, hm, lift, e4, av [], Ex.fresh]
end
end K09
namespace K09
open Ev PySem
section
variable {n : Nat} {u : Cup}
/-! ### values that are alike -/
theorem sort_int {i : Int} : R (n + 1) 24 [.int i] u = .ok (.int 2) u := by
  refine (run_succ d_law_sort rfl rfl).trans ?_
  simp [d_law_sort, evSs, evS, evE, evL, evB, ofRe, Re.bind, Ev.start, SR.fin, lift, cmpV, isiV, D.isNon]
theorem sort_bl {b : Bool} : R (n + 1) 24 [.bl b] u = .ok (.int 1) u := by
  refine (run_succ d_law_sort rfl rfl).trans ?_
  simp [d_law_sort, evSs, evS, evE, evL, evB, ofRe, Re.bind, Ev.start, SR.fin, lift, cmpV, isiV, D.isNon]
theorem sort_str {b : Str} : R (n + 1) 24 [.str b] u = .ok (.int 3) u := by
  refine (run_succ d_law_sort rfl rfl).trans ?_
  simp [d_law_sort, evSs, evS, evE, evL, evB, ofRe, Re.bind, Ev.start, SR.fin, lift, cmpV, isiV, D.isNon]
theorem sort_tup {xs : List D} : R (n + 1) 24 [.tup xs] u = .ok (.int 4) u := by
  refine (run_succ d_law_sort rfl rfl).trans ?_
  simp [d_law_sort, evSs, evS, evE, evL, evB, ofRe, Re.bind, Ev.start, SR.fin, lift, cmpV, isiV, D.isNon]
theorem sort_lst {xs : List D} : R (n + 1) 24 [.lst xs] u = .ok (.int 5) u := by
  refine (run_succ d_law_sort rfl rfl).trans ?_
  simp [d_law_sort, evSs, evS, evE, evL, evB, ofRe, Re.bind, Ev.start, SR.fin, lift, cmpV, isiV, D.isNon]
theorem in_n1 : cmpV .In (.int 1) (.tup [.int 4, .int 5]) = some (.bl false) := rfl
theorem in_n2 : cmpV .In (.int 2) (.tup [.int 4, .int 5]) = some (.bl false) := rfl
theorem in_n3 : cmpV .In (.int 3) (.tup [.int 4, .int 5]) = some (.bl false) := rfl
theorem in_n4 : cmpV .In (.int 4) (.tup [.int 4, .int 5]) = some (.bl true) := rfl
theorem in_n5 : cmpV .In (.int 5) (.tup [.int 4, .int 5]) = some (.bl true) := rfl
theorem like_int {i : Int} : R (n + 2) 25 [.int i, .int i] u = .ok (.bl true) u := by
  have e : ∀ i u, R (n + 1) 24 [.int i] u = .ok (.int 2) u := fun _ _ => sort_int
  simp only [R] at e
  refine (run_succ d_law_like rfl rfl).trans ?_
  simp [d_law_like, evSs, evS, evE, evL, evB, ofRe, Re.bind, Ev.start, SR.fin, lift, e, in_n2, ne_I, eq_I, after, D.flat, D.ownable, D.isBox, Ex.fresh, big]
theorem like_bl {b : Bool} : R (n + 2) 25 [.bl b, .bl b] u = .ok (.bl true) u := by
  have e : ∀ i u, R (n + 1) 24 [.bl i] u = .ok (.int 1) u := fun _ _ => sort_bl
  simp only [R] at e
  refine (run_succ d_law_like rfl rfl).trans ?_
  simp [d_law_like, evSs, evS, evE, evL, evB, ofRe, Re.bind, Ev.start, SR.fin, lift, e, in_n1, ne_I, eq_I, eq_B, after, D.flat, D.ownable, D.isBox, Ex.fresh, big]
theorem like_str {b : Str} (hb : SO b) : R (n + 2) 25 [.str b, .str b] u = .ok (.bl true) u := by
  have e : ∀ i u, R (n + 1) 24 [.str i] u = .ok (.int 3) u := fun _ _ => sort_str
  simp only [R] at e
  refine (run_succ d_law_like rfl rfl).trans ?_
  simp [d_law_like, evSs, evS, evE, evL, evB, ofRe, Re.bind, Ev.start, SR.fin, lift, e, in_n3, ne_I, eq_I, eq_S hb hb, after, D.flat, D.ownable, D.isBox, Ex.fresh, big]
theorem zip_same {xs : List D} {d : D} (h : d ∈ (xs.zip xs).map fun p => D.tup [p.1, p.2]) : ∃ x ∈ xs, d = .tup [x, x] := by
  obtain ⟨p, hp, rfl⟩ := List.mem_map.mp h
  obtain ⟨i, hi, e⟩ := List.getElem_of_mem hp
  rw [List.getElem_zip] at e
  subst e
  exact ⟨_, List.getElem_mem _, rfl⟩
theorem like_lst {xs : List D} (hb : xs.length ≤ 1000) (h : ∀ x ∈ xs, ∀ u, R (n + 1) 25 [x, x] u = .ok (.bl true) u) : R (n + 2) 25 [.lst xs, .lst xs] u = .ok (.bl true) u := by
  have e : ∀ i u, R (n + 1) 24 [.lst i] u = .ok (.int 5) u := fun _ _ => sort_lst
  have key : ∀ (f : D → Cup → Re (Option D)), (∀ x ∈ xs, f (.tup [x, x]) u = .ok none u) → lcLoop f ((xs.zip xs).map fun p => D.tup [p.1, p.2]) u = .ok [] u := fun f hf => lc_none fun d hd => by
    obtain ⟨x, hx, rfl⟩ := zip_same hd
    exact hf x hx
  simp only [R] at e h
  refine (run_succ d_law_like rfl rfl).trans ?_
  simp [d_law_like, evSs, evS, evE, evL, evB, ofRe, Re.bind, Ev.start, SR.fin, lift, e, in_n5, ne_I, eq_I, after, D.flat, D.ownable, D.isBox, Ex.fresh, biV, D.items, big]
  rw [key _ fun x hx => ?_]
  · have hbb : xs.length ≤ 16777216 := by omega
    simp [noExc, eq_N, hbb]
  · simp [Tg.put, Tg.puts, wipeE, h x hx]
theorem like_tup {xs : List D} (hb : xs.length ≤ 1000) (h : ∀ x ∈ xs, ∀ u, R (n + 1) 25 [x, x] u = .ok (.bl true) u) : R (n + 2) 25 [.tup xs, .tup xs] u = .ok (.bl true) u := by
  have e : ∀ i u, R (n + 1) 24 [.tup i] u = .ok (.int 4) u := fun _ _ => sort_tup
  have key : ∀ (f : D → Cup → Re (Option D)), (∀ x ∈ xs, f (.tup [x, x]) u = .ok none u) → lcLoop f ((xs.zip xs).map fun p => D.tup [p.1, p.2]) u = .ok [] u := fun f hf => lc_none fun d hd => by
    obtain ⟨x, hx, rfl⟩ := zip_same hd
    exact hf x hx
  simp only [R] at e h
  refine (run_succ d_law_like rfl rfl).trans ?_
  simp [d_law_like, evSs, evS, evE, evL, evB, ofRe, Re.bind, Ev.start, SR.fin, lift, e, in_n4, ne_I, eq_I, after, D.flat, D.ownable, D.isBox, Ex.fresh, biV, D.items, big]
  rw [key _ fun x hx => ?_]
  · have hbb : xs.length ≤ 16777216 := by omega
    simp [noExc, eq_N, hbb]
  · simp [Tg.put, Tg.puts, wipeE, h x hx]
theorem like_ints {l : List Int} (hb : l.length ≤ 1000) : R (n + 3) 25 [.tup (l.map .int), .tup (l.map .int)] u = .ok (.bl true) u :=
  like_tup (by simpa using hb) fun x hx u => by
    obtain ⟨i, _, rfl⟩ := List.mem_map.mp hx
    exact like_int
end
end K09

/-! k09, the plain law: steps ahead, as the program walks. -/
namespace K09
open Ev PySem
def strD : D → Option Str
  | .str a => some a
  | _ => none
def depsOf (s : Stp) : List Str := if s.kd = "fixed" then [] else s.ar.filterMap strD
theorem strD_map {as : List Str} : (as.map D.str).filterMap strD = as := by
  induction as with
  | nil => rfl
  | cons a as ih => simp [strD, ih]
theorem deps_ar {ns : List Str} {s : Stp} (h : OkS ns s) (hk : s.kd ≠ "fixed") : s.ar = (depsOf s).map .str := by
  obtain ⟨as, e, _, _⟩ := oks_strs h hk
  unfold depsOf
  rw [if_neg hk, e, strD_map]
theorem deps_mem {ns : List Str} {s : Stp} (h : OkS ns s) : ∀ a ∈ depsOf s, a ∈ ns := by
  intro a ha
  unfold depsOf at ha
  split at ha
  · cases ha
  · rename_i hk
    obtain ⟨as, e, _, m⟩ := oks_strs h hk
    rw [e, strD_map] at ha
    exact m a ha
theorem deps_len {ns : List Str} {s : Stp} (h : OkS ns s) : (depsOf s).length ≤ 4 := by
  unfold depsOf
  split
  · simp
  · rename_i hk
    obtain ⟨as, e, l, _⟩ := oks_strs h hk
    rw [e, strD_map]
    exact l
theorem good_at : ∀ {S : List Stp} {ns : List Str} {i : Nat} {s : Stp}, Good ns S → S[i]? = some s → OkS (ns ++ nms (S.take i)) s
  | [], _, i, s, _, h => by simp at h
  | t :: S, ns, 0, s, ⟨_, _, h3, _⟩, h => by
    simp at h
    subst h
    simpa [nms] using h3
  | t :: S, ns, i + 1, s, ⟨_, _, _, h4⟩, h => by
    have z := good_at (i := i) h4 (by simpa using h)
    simpa [nms] using z
theorem Fig.at {S : List Stp} (h : Fig S) {i : Nat} {s : Stp} (hs : S[i]? = some s) : OkS (nms (S.take i)) s := by simpa using good_at h.g hs
theorem Fig.q {S : List Stp} (h : Fig S) {i : Nat} {s : Stp} (hs : S[i]? = some s) : s.nm ∈ QW := h.qw _ (List.mem_map.mpr ⟨s, List.mem_of_getElem? hs, rfl⟩)
/-! ### places -/
def pos (S : List Stp) (a : Str) : Nat := (nms S).idxOf a
theorem nms_take {S : List Stp} {i : Nat} : nms (S.take i) = (nms S).take i := by simp [nms, List.map_take]
theorem pos_get {S : List Stp} {a : Str} (h : a ∈ nms S) : (nms S)[pos S a]? = some a := by
  have hl : pos S a < (nms S).length := List.idxOf_lt_length_of_mem h
  rw [List.getElem?_eq_getElem hl]
  exact congrArg some (List.getElem_idxOf hl)
theorem pos_lt {S : List Stp} {a : Str} {i : Nat} (h : a ∈ nms (S.take i)) : pos S a < i := by
  rw [nms_take] at h
  unfold pos
  rw [← List.take_append_drop i (nms S), List.idxOf_append, if_pos h]
  have := List.idxOf_lt_length_of_mem h
  rw [List.length_take] at this
  omega
theorem pos_len {S : List Stp} {a : Str} (h : a ∈ nms S) : pos S a < S.length := by
  have := List.idxOf_lt_length_of_mem h
  simpa [nms, pos] using this
theorem pos_at {S : List Stp} (nd : (nms S).Nodup) {i : Nat} {a : Str} (h : (nms S)[i]? = some a) : pos S a = i := by
  have hm : a ∈ nms S := List.mem_of_getElem? h
  have h2 := pos_get hm
  have h1 : i < (nms S).length := (List.getElem?_eq_some_iff.mp h).1
  exact ((List.getElem?_inj h1 nd).mp (h.trans h2.symm)).symm
/-- the steps right ahead -/
def adj (S : List Stp) (i : Nat) : List Nat := match S[i]? with
  | some s => (depsOf s).map (pos S)
  | none => []
theorem adj_lt {S : List Stp} (h : Fig S) {i j : Nat} (hj : j ∈ adj S i) : j < i := by
  unfold adj at hj
  cases e : S[i]? with
  | none => rw [e] at hj; cases hj
  | some s =>
    rw [e] at hj
    obtain ⟨a, ha, rfl⟩ := List.mem_map.mp hj
    exact pos_lt (deps_mem (h.at e) a ha)
inductive Reach (S : List Stp) (a : Nat) : Nat → Prop where
  | refl : Reach S a a
  | step {i j : Nat} (h : Reach S a i) (hj : j ∈ adj S i) : Reach S a j
theorem Reach.le {S : List Stp} (h : Fig S) {a i : Nat} (r : Reach S a i) : i ≤ a := by
  induction r with
  | refl => exact Nat.le_refl _
  | step _ hj ih => have := adj_lt h hj; omega
/-- a closed set that holds a and is reached from a is what is reached -/
theorem closed_reach {S : List Stp} {a : Nat} {F : List Nat} (h0 : a ∈ F) (hc : ∀ i ∈ F, ∀ j ∈ adj S i, j ∈ F) {i : Nat} (r : Reach S a i) : i ∈ F := by
  induction r with
  | refl => exact h0
  | step _ hj ih => exact hc _ ih _ hj
section
variable {n : Nat} {u : Cup}
/-! ### the dict of places -/
def plV (S : List Stp) : List D := S.zipIdx.map fun p => .int (p.2 : Int)
def plD (S : List Stp) : D := .dic ((nms S).map .inr) (plV S)
theorem zip_nms {S : List Stp} : S.zipIdx.map (fun p => p.1.nm) = nms S := by
  refine List.ext_getElem? fun i => ?_
  simp [nms, List.getElem?_zipIdx]
  cases S[i]? <;> rfl
theorem pl_get {S : List Stp} (h : Fig S) {a : Str} (ha : a ∈ nms S) : ixV (plD S) (.str a) = some (.int (pos S a)) := by
  have hl : pos S a < S.length := pos_len ha
  have e : lkK ((nms S).map Sum.inr) (plV S) (.inr a) = (plV S)[pos S a]? := lkK_inr h.nd (by simp [nms, plV]) (pos_get ha)
  simp only [ixV, plD, D.key]
  rw [e]
  simp [plV, List.getElem?_zipIdx, List.getElem?_eq_getElem hl]
theorem pl_dict {S : List Stp} (h : Fig S) : biV .dict [.lst (S.zipIdx.map fun p => .tup [.str p.1.nm, .int (p.2 : Int)])] = some (plD S) := by
  have e := dictG (l := S.zipIdx) (f := fun p => p.1.nm) (g := fun p => .int (p.2 : Int)) (by rw [zip_nms]; exact h.nd)
  rw [zip_nms] at e
  exact e
/-! ### the points of a step -/
theorem points_ok {ns : List Str} {s : Stp} (h : OkS ns s) : R (n + 1) 15 [stD s] u = .ok (.tup ((depsOf s).map .str)) u := by
  have i1 : ixR (stD s) (.int 1) u = .ok (.str s.kd) u := rfl
  have i2 : ixR (stD s) (.int 2) u = .ok (.tup s.ar) u := rfl
  refine (run_succ d_points_of_step rfl rfl).trans ?_
  by_cases hk : s.kd = "fixed"
  · simp [d_points_of_step, evSs, evS, evE, evL, evB, ofRe, Re.bind, Ev.start, lift, SR.fin, i1, hk, eq_S so_fixed so_fixed, depsOf, big]
  · have e := deps_ar h hk
    simp [d_points_of_step, evSs, evS, evE, evL, evB, ofRe, Re.bind, Ev.start, lift, SR.fin, i1, i2, hk, eq_S (oks_so h) so_fixed]
    exact e
/-! ### the walk -/
def fdD (F : List Nat) : D := .dic (F.map fun (k : Nat) => .inl (k : Int)) (List.replicate F.length (.bl true))
def lnD (L : List Nat) : D := .lst (L.map fun (k : Nat) => .int (k : Int))
theorem fd_has {F : List Nat} {k : Nat} : hasK (F.map fun (k : Nat) => (Sum.inl (k : Int) : L2.Key)) (.inl (k : Int)) = decide (k ∈ F) := by
  have e : (F.map fun (k : Nat) => (Sum.inl (k : Int) : L2.Key)) = (F.map Int.ofNat).map Sum.inl := by simp [Function.comp_def]
  rw [e, hasK_inl]
  refine decide_eq_decide.mpr ⟨fun h => ?_, fun h => List.mem_map.mpr ⟨k, h, rfl⟩⟩
  obtain ⟨a, ha, q⟩ := List.mem_map.mp h
  have : a = k := Int.ofNat.inj q
  exact this ▸ ha
def vis1 (S : List Stp) (p : List Nat × List Nat) (a : Str) : List Nat × List Nat := if pos S a ∈ p.1 then p else (p.1 ++ [pos S a], p.2 ++ [pos S a])
def visN (S : List Stp) (as : List Str) (p : List Nat × List Nat) : List Nat × List Nat := as.foldl (vis1 S) p
theorem vis_prop {S : List Stp} : ∀ {as : List Str} {F L : List Nat}, ∃ N : List Nat, visN S as (F, L) = (F ++ N, L ++ N) ∧ (∀ a ∈ as, pos S a ∈ F ++ N) ∧ (∀ k ∈ N, ∃ a ∈ as, k = pos S a) ∧ (F.Nodup → (F ++ N).Nodup)
  | [], F, L => ⟨[], by simp [visN], by simp, by simp, by simp⟩
  | a :: as, F, L => by
    unfold visN
    rw [List.foldl_cons]
    by_cases h : pos S a ∈ F
    · obtain ⟨N, e, h1, h2, h3⟩ := vis_prop (S := S) (as := as) (F := F) (L := L)
      have q : vis1 S (F, L) a = (F, L) := by unfold vis1; rw [if_pos h]
      refine ⟨N, by rw [q]; exact e, fun b hb => ?_, fun k hk => ?_, h3⟩
      · rcases List.mem_cons.mp hb with rfl | hb
        · exact List.mem_append_left _ h
        · exact h1 b hb
      · obtain ⟨b, hb, q⟩ := h2 k hk
        exact ⟨b, List.mem_cons_of_mem _ hb, q⟩
    · obtain ⟨N, e, h1, h2, h3⟩ := vis_prop (S := S) (as := as) (F := F ++ [pos S a]) (L := L ++ [pos S a])
      have q : vis1 S (F, L) a = (F ++ [pos S a], L ++ [pos S a]) := by unfold vis1; rw [if_neg h]
      refine ⟨pos S a :: N, by rw [q]; exact e.trans (by simp), fun b hb => ?_, fun k hk => ?_, fun nd => ?_⟩
      · rcases List.mem_cons.mp hb with rfl | hb
        · simp
        · simpa using h1 b hb
      · rcases List.mem_cons.mp hk with rfl | hk
        · exact ⟨a, List.mem_cons_self, rfl⟩
        · obtain ⟨b, hb, q⟩ := h2 k hk
          exact ⟨b, List.mem_cons_of_mem _ hb, q⟩
      · have z := h3 (by
          rw [List.nodup_append]
          exact ⟨nd, by simp, fun x hx y hy => by
            rw [List.mem_singleton.mp hy]
            exact fun e => h (e ▸ hx)⟩)
        simpa using z
/-- the frame of ahead_of -/
def envA (S : List Stp) (at_ : Nat) (b : Bool) (F L : List Nat) (s5 : Sl) : En := [some (false, fgD S), some (false, .int (at_ : Int)), some (b, plD S), some (true, fdD F), some (true, lnD L), s5, none, none]
abbrev wlB : List Sx := match d_ahead_of.body.getD 2 .pass with
  | .while_ _ b => b
  | _ => []
abbrev inB : List Sx := match wlB.getD 0 .pass with
  | .forP _ _ _ _ b => b
  | _ => []
theorem in_turn {S : List Stp} (h : Fig S) {at_ : Nat} {b : Bool} {F L : List Nat} {s5 : Sl} {a : Str} (ha : a ∈ nms S) (hb : F.length < 100) (hb2 : L.length < 100) :
    turnS wds NW_ (R n) (.n 5) inB (.str a) (envA S at_ b F L s5) u = .next (envA S at_ b (vis1 S (F, L) a).1 (vis1 S (F, L) a).2 (some (false, .str a))) u := by
  have g := pl_get h ha
  have i0 : ixR (plD S) (.str a) u = .ok (.int (pos S a)) u := by
    show lift (ixV (plD S) (.str a)) u = _
    rw [g]
    rfl
  unfold vis1
  by_cases hm : pos S a ∈ F
  · simp [turnS, Tg.put, inB, wlB, d_ahead_of, evSs, evS, evE, evL, ofRe, Re.bind, envA, i0, lift, cmpV, fdD, D.key, fd_has, hm]
  · have l1 : F.length < 16777216 := by omega
    have l2 : L.length < 16777216 := by omega
    have hk : hasK (F.map fun (k : Nat) => (Sum.inl (k : Int) : L2.Key)) (.inl (pos S a : Int)) = false := by rw [fd_has]; simp [hm]
    simp [turnS, Tg.put, inB, wlB, d_ahead_of, evSs, evS, evE, evL, ofRe, Re.bind, envA, i0, lift, cmpV, fdD, lnD, D.key, fd_has, hm, putKs_new hk, putDs_new hk, D.flat, big, l1, l2, ← List.replicate_succ']
theorem in_loop {S : List Stp} (h : Fig S) {at_ : Nat} {b : Bool} : ∀ {as : List Str} {F L : List Nat} {s5 : Sl}, (∀ a ∈ as, a ∈ nms S) → F.length + as.length < 100 → L.length + as.length < 100 →
    ∃ t5, forLoop (turnS wds NW_ (R n) (.n 5) inB) (as.map .str) (envA S at_ b F L s5) u = .next (envA S at_ b (visN S as (F, L)).1 (visN S as (F, L)).2 t5) u
  | [], F, L, s5, _, _, _ => ⟨s5, rfl⟩
  | a :: as, F, L, s5, hm, l1, l2 => by
    rw [List.length_cons] at l1 l2
    have e := in_turn (n := n) (u := u) h (at_ := at_) (b := b) (F := F) (L := L) (s5 := s5) (hm a List.mem_cons_self) (by omega) (by omega)
    have q : ∀ p : List Nat × List Nat, (vis1 S p a).1.length ≤ p.1.length + 1 ∧ (vis1 S p a).2.length ≤ p.2.length + 1 := fun p => by
      unfold vis1
      split <;> simp
    obtain ⟨t5, e2⟩ := in_loop h (as := as) (F := (vis1 S (F, L) a).1) (L := (vis1 S (F, L) a).2) (s5 := some (false, .str a)) (fun b hb => hm b (List.mem_cons_of_mem _ hb)) (by have := (q (F, L)).1; simp at this; omega) (by have := (q (F, L)).2; simp at this; omega)
    exact ⟨t5, by rw [List.map_cons, forLoop, e]; exact e2⟩
/-- what holds while it walks -/
structure Wk (S : List Stp) (at_ : Nat) (F L : List Nat) : Prop where
  nd : F.Nodup
  sub : ∀ i ∈ L, i ∈ F
  base : at_ ∈ F
  re : ∀ i ∈ F, Reach S at_ i
  cl : ∀ i ∈ F, i ∉ L → ∀ j ∈ adj S i, j ∈ F
  ll : L.length ≤ F.length
theorem Wk.len {S : List Stp} (h : Fig S) {at_ : Nat} (hat : at_ < S.length) {F L : List Nat} (w : Wk S at_ F L) : F.length ≤ S.length := by
  have z := List.Nodup.length_le_of_subset (l₂ := List.range S.length) w.nd fun i hi => by
    rw [List.mem_range]
    have := (w.re i hi).le h
    omega
  simpa using z
theorem wl_turn {S : List Stp} (h : Fig S) {at_ : Nat} (hat : at_ < S.length) {b : Bool} {F L : List Nat} {s5 : Sl} (w : Wk S at_ F L) (hL : L ≠ []) :
    ∃ F' L' t5, evSs wds NW_ (R (n + 1)) wlB (envA S at_ b F L s5) u = .next (envA S at_ b F' L' t5) u ∧ Wk S at_ F' L' ∧ 2 * (S.length - F'.length) + L'.length < 2 * (S.length - F.length) + L.length := by
  obtain ⟨L0, k, rfl⟩ : ∃ L0 k, L = L0 ++ [k] := ⟨L.dropLast, L.getLast hL, (List.dropLast_concat_getLast hL).symm⟩
  have hk : k ∈ F := w.sub k (by simp)
  have hkl : k < S.length := by have := (w.re k hk).le h; omega
  have hs : S[k]? = some S[k] := List.getElem?_eq_getElem hkl
  have ok := h.at hs
  have dl := deps_len ok
  have fl := w.len h hat
  have l16 := h.l2
  have ll := w.ll
  rw [List.length_append] at ll
  simp at ll
  have dm : ∀ a ∈ depsOf S[k], a ∈ nms S := fun a ha => by
    have z := deps_mem ok a ha
    rw [nms_take] at z
    exact List.mem_of_mem_take z
  obtain ⟨t5, e⟩ := in_loop (n := n + 1) (u := u) h (at_ := at_) (b := b) (as := depsOf S[k]) (F := F) (L := L0) (s5 := s5) dm (by omega) (by omega)
  obtain ⟨N, v1, v2, v3, v4⟩ := vis_prop (S := S) (as := depsOf S[k]) (F := F) (L := L0)
  rw [v1] at e
  have p1 : R (n + 1) 15 [stD S[k]] u = .ok (.tup ((depsOf S[k]).map .str)) u := points_ok ok
  have adjk : adj S k = (depsOf S[k]).map (pos S) := by unfold adj; rw [hs]
  have wk' : Wk S at_ (F ++ N) (L0 ++ N) := by
    refine ⟨v4 w.nd, fun i hi => ?_, List.mem_append_left _ w.base, fun i hi => ?_, fun i hi hn j hj => ?_, by simp; omega⟩
    · rcases List.mem_append.mp hi with z | z
      · exact List.mem_append_left _ (w.sub i (List.mem_append_left _ z))
      · exact List.mem_append_right _ z
    · rcases List.mem_append.mp hi with z | z
      · exact w.re i z
      · obtain ⟨a, ha, rfl⟩ := v3 i z
        exact .step (w.re k hk) (by rw [adjk]; exact List.mem_map_of_mem ha)
    · rcases List.mem_append.mp hi with z | z
      · by_cases hik : i = k
        · subst hik
          rw [adjk] at hj
          obtain ⟨a, ha, rfl⟩ := List.mem_map.mp hj
          exact v2 a ha
        · exact List.mem_append_left _ (w.cl i z (fun q => by
            rcases List.mem_append.mp q with q | q
            · exact hn (List.mem_append_left _ q)
            · exact hik (List.mem_singleton.mp q)) j hj)
      · exact absurd (List.mem_append_right _ z) hn
  have fl' := wk'.len h hat
  refine ⟨F ++ N, L0 ++ N, t5, ?_, wk', ?_⟩
  · have at1 : popAt (fgD S) (.int (k : Int)) = some (stD S[k]) := by
      simp [popAt, fgD, atI_nat, hs]
    have lg : (L0.map fun (k : Nat) => D.int (k : Int)) ++ [D.int (k : Int)] = (L0 ++ [k]).map fun (k : Nat) => D.int (k : Int) := by simp
    simp only [R] at p1 e
    simp only [wlB, d_ahead_of, List.getD_cons_succ, List.getD_cons_zero, evSs]
    have fz : freeze [0] (envA S at_ b F L0 s5) = envA S at_ b F L0 s5 := by
      cases s5 with
      | none => simp [freeze, frz, envA]
      | some q => obtain ⟨_, _⟩ := q; simp [freeze, frz, envA]
    have st : (envA S at_ b F (L0 ++ [k]) s5).set 4 (some (true, lnD L0)) = envA S at_ b F L0 s5 := by simp [envA]
    have pl : popAt (fgD S) (.int (k : Int)) = some (stD S[k]) := at1
    have e' := e
    rw [evS_forP]
    have g4 : (envA S at_ b F (L0 ++ [k]) s5)[4]? = some (some (true, .lst ((L0 ++ [k]).map fun (k : Nat) => D.int (k : Int)))) := rfl
    have g0 : (envA S at_ b F (L0 ++ [k]) s5)[0]? = some (some (false, fgD S)) := rfl
    rw [g4, g0]
    have last : ((L0 ++ [k]).map fun (k : Nat) => D.int (k : Int))[((L0 ++ [k]).map fun (k : Nat) => D.int (k : Int)).length - 1]? = some (.int (k : Int)) := by simp
    have dl0 : ((L0 ++ [k]).map fun (k : Nat) => D.int (k : Int)).dropLast = L0.map fun (k : Nat) => D.int (k : Int) := by simp
    simp only [last, dl0, at1, p1, ofRe, D.items]
    have st' : (envA S at_ b F (L0 ++ [k]) s5).set 4 (some (true, .lst (L0.map fun (k : Nat) => D.int (k : Int)))) = envA S at_ b F L0 s5 := st
    rw [st', fz]
    simp only [inB, wlB, d_ahead_of, List.getD_cons_succ, List.getD_cons_zero] at e'
    simp only [R]
    rw [e']
  · rw [List.length_append, List.length_append, List.length_append]
    rw [List.length_append] at fl'
    simp
    omega
/-- what ahead_of gives -/
def AheadOk (S : List Stp) (at_ : Nat) (F : List Nat) : Prop := F.Nodup ∧ ∀ i, i ∈ F ↔ Reach S at_ i
def srt (F : List Nat) : List Int := sortI (F.map Int.ofNat)
theorem srt_eq {S : List Stp} {at_ : Nat} {F F' : List Nat} (h : AheadOk S at_ F) (h' : AheadOk S at_ F') : srt F = srt F' := by
  refine sortI_congr (List.Perm.map _ ((List.perm_ext_iff_of_nodup h.1 h'.1).mpr fun a => ?_))
  rw [h.2, h'.2]
theorem ahead_ok {S : List Stp} (h : Fig S) {at_ : Nat} (hat : at_ < S.length) : ∃ F, AheadOk S at_ F ∧ F.length ≤ 16 ∧ R (n + 2) 16 [fgD S, .int (at_ : Int)] u = .ok (.lst ((srt F).map .int)) u := by
  have l16 := h.l2
  have wk0 : Wk S at_ [at_] [at_] := ⟨by simp, fun i hi => hi, by simp, fun i hi => by rw [List.mem_singleton.mp hi]; exact .refl, fun i hi hn => absurd hi hn, Nat.le_refl _⟩
  obtain ⟨env', u', ew, F, s5, rfl, hu, wF⟩ := while_inv (c := fun env u => evE wds NW_ (R (n + 1)) (.cmp .NotEq (.v 4) (.lst [])) env u) (b := fun env u => evSs wds NW_ (R (n + 1)) wlB env u)
    (fun m env u1 => u1 = u ∧ ∃ F L s5, env = envA S at_ true F L s5 ∧ Wk S at_ F L ∧ m = 2 * (S.length - F.length) + L.length)
    (fun env u1 => ∃ F s5, env = envA S at_ true F [] s5 ∧ u1 = u ∧ Wk S at_ F [])
    (by
      rintro m env u1 ⟨rfl, F, L, s5, rfl, w, rfl⟩
      have ce : evE wds NW_ (R (n + 1)) (.cmp .NotEq (.v 4) (.lst [])) (envA S at_ true F L s5) u1 = .ok (.bl (!L.isEmpty)) u1 := by
        have q := ne_LI (l := L.map Int.ofNat)
        have q1 : ((L.map Int.ofNat).map D.int) = L.map fun (k : Nat) => D.int (k : Int) := by simp [Function.comp_def]
        rw [q1] at q
        simp [evE, evL, Re.bind, envA, lnD, lift, q, big]
      by_cases hL : L = []
      · subst hL
        exact .inl ⟨u1, ce, F, s5, rfl, rfl, w⟩
      · obtain ⟨F', L', t5, e, w', lt⟩ := wl_turn (n := n) (u := u1) h hat (b := true) (s5 := s5) w hL
        refine .inr ⟨u1, _, u1, _, ?_, e, ⟨rfl, F', L', t5, rfl, w', rfl⟩, lt⟩
        rw [ce]
        cases L with
        | nil => exact absurd rfl hL
        | cons _ _ => rfl) (k := 4096) (m := 2 * (S.length - 1) + 1) (env := envA S at_ true [at_] [at_] none) (u := u) ⟨rfl, [at_], [at_], none, rfl, wk0, rfl⟩ (by omega)
  rw [hu] at ew
  refine ⟨F, ⟨wF.nd, fun i => ⟨wF.re i, fun r => closed_reach wF.base (fun i hi => wF.cl i hi (by simp)) r⟩⟩, by have := wF.len h hat; omega, ?_⟩
  refine (run_succ d_ahead_of rfl rfl).trans ?_
  have hb : S.length ≤ 16777216 := by omega
  have s1 : evS wds NW_ (Ev.run wds NW_ prog (n + 1)) (.set 2 (.bi .dict [(.lc [6, 7] (.t [(.n 6), (.n 7)]) (.enu (.v 0)) [] (.tup [(.ix (.v 7) (.c (.int 0))), (.v 6)]))])) (Ev.start [fgD S, .int (at_ : Int)] 8) u = .next [some (false, fgD S), some (false, .int (at_ : Int)), some (true, plD S), none, none, none, none, none] u := by
    have own : D.ownable (plD S) = true := by
      have : D.flats (plV S) = true := by
        unfold plV
        generalize S.zipIdx = l
        induction l with
        | nil => rfl
        | cons p l ih => simp [D.flats, D.flat, ih]
      simp [D.ownable, plD, D.isBox, D.its, this]
    simp [evS, evE, evL, evB, ofRe, Re.bind, Ev.start, lift, enuV, fgD, pairs_idx, D.items]
    rw [lc_mapG (g := fun p : Stp × Nat => .tup [.str p.1.nm, .int (p.2 : Int)]) fun p hp => ?_]
    · simp [noExc, hb, big, pl_dict h, lift, after, Ex.fresh, own, fgD, Re.bind, ofRe]
    · simp [Tg.put, Tg.puts, wipeE, stD, ixR, ixV, L2.atI, L2.ixN, lift, big]
  have s2 : evS wds NW_ (Ev.run wds NW_ prog (n + 1)) (.par [3, 4] [(.dic [(.v 1), (.c (.bl true))]), (.lst [(.v 1)])]) [some (false, fgD S), some (false, .int (at_ : Int)), some (true, plD S), none, none, none, none, none] u = .next (envA S at_ true [at_] [at_] none) u := by
    simp [evS, evE, evL, evB, ofRe, Re.bind, lift, dicV, keys, evens, odds, D.key, mergeD, putKs, putDs, hasK, Ex.fresh, D.ownable, D.isBox, D.its, D.flats, D.flat, setPar, envA, fdD, lnD, big]
  have ew' : evS wds NW_ (Ev.run wds NW_ prog (n + 1)) (.while_ (.cmp .NotEq (.v 4) (.lst [])) wlB) (envA S at_ true [at_] [at_] none) u = .next (envA S at_ true F [] s5) u := by
    rw [evS]
    exact ew
  simp only [d_ahead_of, evSs]
  rw [s1]
  simp only []
  rw [s2]
  simp only []
  simp only [wlB, d_ahead_of, List.getD_cons_succ, List.getD_cons_zero] at ew'
  rw [ew']
  have ln : F.length < 64 := by have := wF.len h hat; omega
  have e1 : (F.map fun (k : Nat) => (Sum.inl (k : Int) : L2.Key)) = (F.map Int.ofNat).map Sum.inl := by simp [Function.comp_def]
  have sk : sortK (F.map fun (k : Nat) => (Sum.inl (k : Int) : L2.Key)) = some (.lst ((srt F).map .int)) := by
    rw [e1, sortK_int (by simpa using ln)]
    rfl
  simp [evS, evE, evL, ofRe, Re.bind, envA, lift, biV, fdD, sk, SR.fin]
end
end K09

/-! k09, the plain law: signs, as the program tells them. -/
namespace K09
open Ev PySem
theorem nums_app {A B : List Stp} : nums (A ++ B) = nums A + nums B := by simp [nums]
theorem nums_one {s : Stp} : nums [s] = num s := by simp [nums]
theorem nums_pos : ∀ {S : List Stp}, 0 ≤ nums S
  | [] => by simp [nums]
  | s :: S => by
    have h1 := (num_pos s).1
    have h2 := nums_pos (S := S)
    simp only [nums, List.map_cons, List.sum_cons] at h2 ⊢
    omega
theorem take_succ {S : List Stp} {i : Nat} {s : Stp} (h : S[i]? = some s) : S.take (i + 1) = S.take i ++ [s] := by
  rw [List.take_add_one, h]
  rfl
theorem nums_succ {S : List Stp} {i : Nat} {s : Stp} (h : S[i]? = some s) : nums (S.take (i + 1)) = nums (S.take i) + num s := by
  rw [take_succ h, nums_app, nums_one]
theorem nums_mono {S : List Stp} {i j : Nat} (h : i ≤ j) : nums (S.take i) ≤ nums (S.take j) := by
  have e : S.take j = S.take i ++ (S.drop i).take (j - i) := by
    rw [← List.take_add, Nat.add_sub_cancel' h]
  rw [e, nums_app]
  have := nums_pos (S := (S.drop i).take (j - i))
  omega
theorem nums_le {S : List Stp} {i : Nat} : nums (S.take i) ≤ nums S := by
  have e : nums S = nums (S.take i) + nums (S.drop i) := by rw [← nums_app, List.take_append_drop]
  have := nums_pos (S := S.drop i)
  omega
/-- the signs of a step -/
def sg (S : List Stp) (i : Nat) : List Int := match S[i]? with
  | some s => (List.range (num s).toNat).map fun (k : Nat) => nums (S.take i) + (k : Int)
  | none => []
theorem sg_mem {S : List Stp} {i : Nat} {s : Stp} (h : S[i]? = some s) {x : Int} : x ∈ sg S i ↔ nums (S.take i) ≤ x ∧ x < nums (S.take (i + 1)) := by
  rw [nums_succ h]
  unfold sg
  rw [h]
  have hp := (num_pos s).1
  constructor
  · intro hx
    obtain ⟨k, hk, rfl⟩ := List.mem_map.mp hx
    rw [List.mem_range] at hk
    omega
  · rintro ⟨h1, h2⟩
    refine List.mem_map.mpr ⟨(x - nums (S.take i)).toNat, ?_, ?_⟩
    · rw [List.mem_range]
      omega
    · omega
theorem sg_bounds {S : List Stp} {i : Nat} {x : Int} (hx : x ∈ sg S i) : nums (S.take i) ≤ x ∧ x < nums (S.take (i + 1)) := by
  cases h : S[i]? with
  | none =>
    unfold sg at hx
    rw [h] at hx
    cases hx
  | some s => exact (sg_mem h).mp hx
theorem sg_sorted {S : List Stp} {i : Nat} : (sg S i).Pairwise (· ≤ ·) := by
  unfold sg
  cases S[i]? with
  | none => exact .nil
  | some s =>
    rw [List.pairwise_map]
    exact List.pairwise_lt_range.imp fun h => by omega
theorem sg_nodup {S : List Stp} {i : Nat} : (sg S i).Nodup := by
  unfold sg
  cases S[i]? with
  | none => exact .nil
  | some s =>
    rw [List.Nodup, List.pairwise_map]
    exact List.pairwise_lt_range.imp fun h => by omega
theorem sg_len {S : List Stp} {i : Nat} {s : Stp} (h : S[i]? = some s) : (sg S i).length = (num s).toNat := by simp [sg, h]
theorem sg_get {S : List Stp} {i k : Nat} {s : Stp} (h : S[i]? = some s) (hk : k < (num s).toNat) : (sg S i)[k]? = some (nums (S.take i) + (k : Int)) := by
  simp [sg, h, hk]
section
variable {n : Nat} {u : Cup}
theorem fg_slice {S : List Stp} {i : Nat} (hi : i ≤ S.length) : slV (fgD S) none (some (some (i : Int))) = some (fgD (S.take i)) := by
  have e := cut_take (xs := S.map stD) (k := i) (by simpa using hi)
  simp only [slV, fgD, e]
  rw [List.map_take]
theorem first_ok {S : List Stp} (h : Fig S) {i : Nat} (hi : i ≤ S.length) : R (n + 2) 13 [fgD S, .int (i : Int)] u = .ok (.int (nums (S.take i))) u := by
  have e : R (n + 1) 10 [fgD (S.take i)] u = .ok (.int (nums (S.take i))) u := count_ok (by
    have := h.big
    rw [List.length_take]
    omega)
  have e2 := fg_slice hi
  simp only [R] at e
  refine (run_succ d_first_number rfl rfl).trans ?_
  simp [d_first_number, evSs, evS, evE, evL, ofRe, Re.bind, Ev.start, lift, SR.fin, e, e2, partE, isNonC]
theorem range2_sg {S : List Stp} {i : Nat} {s : Stp} (h : S[i]? = some s) : range2 (nums (S.take i)) (nums (S.take i) + num s) = (sg S i).map .int := by
  unfold range2 sg
  rw [h, List.map_map]
  have : (nums (S.take i) + num s - nums (S.take i)).toNat = (num s).toNat := by omega
  rw [this]
  rfl
theorem signs_ok {S : List Stp} (h : Fig S) {i : Nat} {s : Stp} (hs : S[i]? = some s) : R (n + 3) 17 [fgD S, .int (i : Int)] u = .ok (.lst ((sg S i).map .int)) u := by
  have hi : i < S.length := (List.getElem?_eq_some_iff.mp hs).1
  have e : R (n + 2) 13 [fgD S, .int (i : Int)] u = .ok (.int (nums (S.take i))) u := first_ok h (Nat.le_of_lt hi)
  have i0 : ixR (fgD S) (.int (i : Int)) u = .ok (stD s) u := by
    show lift (ixV (fgD S) (.int (i : Int))) u = _
    simp [ixV, fgD, atI_nat, hs, lift]
  have i1 : ixR (stD s) (.int 1) u = .ok (.str s.kd) u := rfl
  have g := num_get s
  unfold numT at g
  have r2 := range2_sg hs
  have hp := num_pos s
  have hn := nums_le (S := S) (i := i)
  have hn0 := nums_pos (S := S.take i)
  have h8 := h.n8
  have sm : (smallI (nums (S.take i)) && smallI (nums (S.take i) + num s)) = true := by
    simp [smallI]
    omega
  simp only [R] at e
  refine (run_succ d_signs_of rfl rfl).trans ?_
  simp [d_signs_of, evSs, evS, evE, evL, ofRe, Re.bind, Ev.start, lift, SR.fin, e, i0, i1, kgetV, g, after, D.flat, Ex.fresh, addI, lrgV]
  rw [Bool.and_eq_true] at sm
  rw [if_pos sm, r2]
theorem own_ok {S : List Stp} (h : Fig S) {i : Nat} {s : Stp} (hs : S[i]? = some s) : R (n + 9) 18 [fgD S, .str s.nm] u = .ok (.tup ((sg S i).map .int)) u := by
  have hx : (nms S)[i]? = some s.nm := by simp [nms, hs]
  have e1 : R (n + 8) 14 [fgD S, .str s.nm] u = .ok (.int i) u := stepof_ok h hx
  have e2 : R (n + 8) 17 [fgD S, .int (i : Int)] u = .ok (.lst ((sg S i).map .int)) u := signs_ok (n := n + 5) h hs
  simp only [R] at e1 e2
  refine (run_succ d_own_signs rfl rfl).trans ?_
  simp [d_own_signs, evSs, evS, evE, evL, ofRe, Re.bind, Ev.start, lift, SR.fin, e1, e2, biV]
/-- the signs behind -/
def bh (S : List Stp) (A : List Int) : List Int := A.flatMap fun i => sg S i.toNat
theorem mem_srt {F : List Nat} {i : Int} : i ∈ srt F ↔ ∃ k ∈ F, i = (k : Int) := by
  unfold srt
  rw [(sortI_perm _).mem_iff]
  simp only [List.mem_map]
  exact ⟨fun ⟨k, hk, e⟩ => ⟨k, hk, e.symm⟩, fun ⟨k, hk, e⟩ => ⟨k, hk, e.symm⟩⟩
theorem sb_loop {S : List Stp} (h : Fig S) {x : Sl} : ∀ {A : List Int} {B : List Int} {t3 : Sl} {b : Bool}, (∀ i ∈ A, ∃ k : Nat, i = (k : Int) ∧ k < S.length) → B.length + 3 * A.length ≤ 1000 →
    ∃ t3' b', forLoop (turnS wds NW_ (R (n + 3)) (.n 3) [(.set 2 (.bin .Add (.v 2) (.call 17 [(.v 0), (.v 3)])))]) (A.map .int) [some (false, fgD S), x, some (b, .lst (B.map .int)), t3] u = .next [some (false, fgD S), x, some (b', .lst ((B ++ bh S A).map .int)), t3'] u
  | [], B, t3, b, _, _ => ⟨t3, b, by simp [forLoop, bh]⟩
  | i :: A, B, t3, b, hA, hl => by
    obtain ⟨k, rfl, hk⟩ := hA i List.mem_cons_self
    have hs : S[k]? = some S[k] := List.getElem?_eq_getElem hk
    have e : R (n + 3) 17 [fgD S, .int (k : Int)] u = .ok (.lst ((sg S k).map .int)) u := signs_ok h hs
    have l2 : (sg S k).length ≤ 2 := by rw [sg_len hs]; have := (num_pos S[k]).2; omega
    rw [List.length_cons] at hl
    obtain ⟨t3', b', e2⟩ := sb_loop h (x := x) (A := A) (B := B ++ sg S k) (t3 := some (false, .int (k : Int))) (b := true) (fun j hj => hA j (List.mem_cons_of_mem _ hj)) (by rw [List.length_append]; omega)
    refine ⟨t3', b', ?_⟩
    have ad := addL (xs := B.map D.int) (ys := (sg S k).map D.int) (by simp; omega)
    have own : D.ownable (.lst (B.map D.int ++ (sg S k).map D.int)) = true := by
      have : ∀ l : List Int, D.flats (l.map D.int) = true := fun l => by
        induction l with
        | nil => rfl
        | cons a l ih => simp [D.flats, D.flat, ih]
      have q : D.flats (B.map D.int ++ (sg S k).map D.int) = true := by
        rw [← List.map_append]
        exact this _
      simp [D.ownable, D.isBox, D.its, q]
    simp only [R] at e
    have turn : turnS wds NW_ (R (n + 3)) (.n 3) [(.set 2 (.bin .Add (.v 2) (.call 17 [(.v 0), (.v 3)])))] (.int (k : Int)) [some (false, fgD S), x, some (b, .lst (B.map .int)), t3] u = .next [some (false, fgD S), x, some (true, .lst ((B ++ sg S k).map .int)), some (false, .int (k : Int))] u := by
      simp [turnS, Tg.put, evSs, evS, evE, evL, ofRe, Re.bind, e, lift, ad, after, Ex.fresh, own]
    rw [List.map_cons, forLoop, turn]
    refine e2.trans ?_
    simp [bh]
theorem behind_ok {S : List Stp} (h : Fig S) {i : Nat} {s : Stp} (hs : S[i]? = some s) {F : List Nat} (hF : AheadOk S i F) : R (n + 9) 19 [fgD S, .str s.nm] u = .ok (.tup ((bh S (srt F)).map .int)) u := by
  have hi : i < S.length := (List.getElem?_eq_some_iff.mp hs).1
  have hx : (nms S)[i]? = some s.nm := by simp [nms, hs]
  have e1 : R (n + 8) 14 [fgD S, .str s.nm] u = .ok (.int i) u := stepof_ok h hx
  obtain ⟨F', hF', l16, e2⟩ := ahead_ok (n := n + 6) (u := u) h hi
  rw [srt_eq hF' hF] at e2
  have lF : (srt F).length ≤ 16 := by
    rw [← srt_eq hF' hF]
    unfold srt
    rw [(sortI_perm _).length_eq]
    simpa using l16
  obtain ⟨t3', b', e3⟩ := sb_loop (n := n + 5) (u := u) h (x := some (false, .str s.nm)) (A := srt F) (B := []) (t3 := none) (b := true) (fun j hj => by
    obtain ⟨k, hk, rfl⟩ := mem_srt.mp hj
    exact ⟨k, rfl, by have := ((hF.2 k).mp hk).le h; omega⟩) (by simp; omega)
  simp only [R] at e1 e2 e3
  have ef : evS wds NW_ (Ev.run wds NW_ prog (n + 8)) (.for_ (.n 3) (.call 16 [(.v 0), (.call 14 [(.v 0), (.v 1)])]) [(.set 2 (.bin .Add (.v 2) (.call 17 [(.v 0), (.v 3)])))]) [some (false, fgD S), some (false, .str s.nm), some (true, .lst []), none] u = .next [some (false, fgD S), some (false, .str s.nm), some (b', .lst ((bh S (srt F)).map .int)), t3'] u := by
    rw [evS_for]
    simp only [evE, evL, Re.bind, List.getElem?_cons_zero, List.getElem?_cons_succ, e1, e2, ofRe, D.items]
    have fz : freeze ((Ex.call 16 [(.v 0), (.call 14 [(.v 0), (.v 1)])]).fz (.lst ((srt F).map .int))) [some (false, fgD S), some (false, .str s.nm), some (true, .lst []), none] = [some (false, fgD S), some (false, .str s.nm), some (true, .lst []), none] := by
      simp [Ex.fz, Ex.fresh, Ex.fv, Ex.fvs, freeze, frz]
    rw [fz]
    simpa using e3
  refine (run_succ d_signs_behind rfl rfl).trans ?_
  simp only [d_signs_behind, evSs]
  have s1 : evS wds NW_ (Ev.run wds NW_ prog (n + 8)) (.set 2 (.lst [])) (Ev.start [fgD S, .str s.nm] 4) u = .next [some (false, fgD S), some (false, .str s.nm), some (true, .lst []), none] u := by
    simp [evS, evE, evL, ofRe, Re.bind, Ev.start, after, Ex.fresh, D.ownable, D.isBox, D.its, D.flats, D.flat, big]
  rw [s1]
  simp only []
  rw [ef]
  simp [evS, evE, evL, ofRe, Re.bind, lift, biV, SR.fin]
theorem stepsahead_ok {S : List Stp} (h : Fig S) {i : Nat} {s : Stp} (hs : S[i]? = some s) {F : List Nat} (hF : AheadOk S i F) : R (n + 9) 20 [fgD S, .str s.nm] u = .ok (.tup ((srt F).map .int)) u := by
  have hi : i < S.length := (List.getElem?_eq_some_iff.mp hs).1
  have hx : (nms S)[i]? = some s.nm := by simp [nms, hs]
  have e1 : R (n + 8) 14 [fgD S, .str s.nm] u = .ok (.int i) u := stepof_ok h hx
  obtain ⟨F', hF', l16, e2⟩ := ahead_ok (n := n + 6) (u := u) h hi
  rw [srt_eq hF' hF] at e2
  simp only [R] at e1 e2
  refine (run_succ d_steps_ahead rfl rfl).trans ?_
  simp [d_steps_ahead, evSs, evS, evE, evL, ofRe, Re.bind, Ev.start, lift, SR.fin, e1, e2, biV]
/-! ### the step of a sign -/
theorem need_whole_ok {x m : Int} (h0 : 0 ≤ x) (h1 : x ≤ m) : R (n + 2) 1 [.int x, .int 0, .int m] u = .ok .non u := by
  have e : R (n + 1) 0 [.int x, .int 0, .int m] u = .ok (.bl true) u := iswhole.trans (by simp [h0, h1])
  simp only [R] at e
  refine (run_succ d_need_whole rfl rfl).trans ?_
  simp [d_need_whole, evSs, evS, evE, evL, ofRe, Re.bind, Ev.start, lift, SR.fin, e]
theorem need_whole_no {x m : Int} (h1 : m < x) : R (n + 2) 1 [.int x, .int 0, .int m] u = .exc 1 u := by
  have e : R (n + 1) 0 [.int x, .int 0, .int m] u = .ok (.bl false) u := iswhole.trans (by simp; omega)
  simp only [R] at e
  refine (run_succ d_need_whole rfl rfl).trans ?_
  simp [d_need_whole, evSs, evS, evE, evL, ofRe, Re.bind, Ev.start, lift, SR.fin, e]
def wdS (s : Stp) (k : Nat) : Str := if num s = 1 then "t" else if k = 0 then "x" else "y"
abbrev ssB : List Sx := match d_step_of_sign.body.getD 2 .pass with
  | .for_ _ _ b => b
  | _ => []
abbrev ssT : Tg := .t [.n 2, .n 3]
theorem ss_no {S : List Stp} (h : Fig S) {x : Int} {i : Nat} {s : Stp} (hs : S[i]? = some s) (hx : x ∉ sg S i) {t2 t3 t4 : Sl} : ∃ t2' t3' t4', turnS wds NW_ (R (n + 3)) ssT ssB (.tup [.int (i : Int), stD s]) [some (false, fgD S), some (false, .int x), t2, t3, t4] u = .next [some (false, fgD S), some (false, .int x), t2', t3', t4'] u := by
  have e : R (n + 3) 17 [fgD S, .int (i : Int)] u = .ok (.lst ((sg S i).map .int)) u := signs_ok h hs
  simp only [R] at e
  refine ⟨some (false, .int (i : Int)), some (false, stD s), some (false, .lst ((sg S i).map .int)), ?_⟩
  have av : after (.call 17 [.v 0, .v 2]) (.lst ((sg S i).map .int)) [some (false, fgD S), some (false, .int x), some (false, .int (i : Int)), some (false, stD s), t4] = [some (false, fgD S), some (false, .int x), some (false, .int (i : Int)), some (false, stD s), t4] := by
    cases t4 with
    | none => simp [after, freeze, frz, Ex.fv, Ex.fvs, D.flat, Ex.fresh]
    | some q => obtain ⟨_, _⟩ := q; simp [after, freeze, frz, Ex.fv, Ex.fvs, D.flat, Ex.fresh]
  simp [turnS, Tg.put, Tg.puts, ssB, d_step_of_sign, evSs, evS, evE, evL, ofRe, Re.bind, e, lift, in_I, hx, av, Ex.fresh]
theorem ss_yes {S : List Stp} (h : Fig S) {i k : Nat} {s : Stp} (hs : S[i]? = some s) (hk : k < (num s).toNat) {t2 t3 t4 : Sl} : turnS wds NW_ (R (n + 3)) ssT ssB (.tup [.int (i : Int), stD s]) [some (false, fgD S), some (false, .int (nums (S.take i) + (k : Int))), t2, t3, t4] u = .ret (.tup [.str s.nm, .str (wdS s k)]) u := by
  have e : R (n + 3) 17 [fgD S, .int (i : Int)] u = .ok (.lst ((sg S i).map .int)) u := signs_ok h hs
  have g := sg_get hs hk
  have hx : nums (S.take i) + (k : Int) ∈ sg S i := List.mem_of_getElem? g
  have ix := idx_I (sg_nodup (S := S) (i := i)) g
  have hp := num_pos s
  have ll := sg_len hs
  have i0 : ixR (stD s) (.int 0) u = .ok (.str s.nm) u := rfl
  simp only [R] at e
  have av : after (.call 17 [.v 0, .v 2]) (.lst ((sg S i).map .int)) [some (false, fgD S), some (false, .int (nums (S.take i) + (k : Int))), some (false, .int (i : Int)), some (false, stD s), t4] = [some (false, fgD S), some (false, .int (nums (S.take i) + (k : Int))), some (false, .int (i : Int)), some (false, stD s), t4] := by
    cases t4 with
    | none => simp [after, freeze, frz, Ex.fv, Ex.fvs, D.flat, Ex.fresh]
    | some q => obtain ⟨_, _⟩ := q; simp [after, freeze, frz, Ex.fv, Ex.fvs, D.flat, Ex.fresh]
  have xy : ∀ k : Nat, k < 2 → ixR (.str (PySem.Str.ofString "xy")) (.int (k : Int)) u = .ok (.str (if k = 0 then "x" else "y")) u := fun k hk => by
    match k, hk with
    | 0, _ => rfl
    | 1, _ => rfl
  by_cases h1 : num s = 1
  · have l1 : (((sg S i).map D.int).length : Int) = 1 := by rw [List.length_map, ll, h1]; rfl
    simp [turnS, Tg.put, Tg.puts, ssB, d_step_of_sign, evSs, evS, evE, evL, ofRe, Re.bind, e, lift, in_I, hx, av, Ex.fresh, i0, biV, eq_I, big, wdS, h1, ll]
  · have l1 : ((num s).toNat : Int) ≠ 1 := by omega
    have xk := xy k (by omega)
    have mx : max (num s) 0 = num s := by omega
    have hb1 : (num s == 1) = false := by simpa using h1
    simp [turnS, Tg.put, Tg.puts, ssB, d_step_of_sign, evSs, evS, evE, evL, ofRe, Re.bind, e, lift, in_I, hx, av, Ex.fresh, i0, biV, eq_I, big, wdS, h1, ll, l1, ix, xk, mx, hb1]
theorem pairs_get {l : List D} {k i : Nat} (h : i < (pairs k l).length) : (pairs k l)[i]? = (l[i]?).map fun d => .tup [.int ((k + i : Nat) : Int), d] := by
  have e := pairs_idx (e := id) (l := l) (k := k)
  rw [List.map_id] at e
  rw [e]
  simp [List.getElem?_zipIdx]
  cases l[i]? <;> rfl
theorem fg_pairs {S : List Stp} {k : Nat} : pairs k (S.map stD) = (S.zipIdx k).map fun p => .tup [.int (p.2 : Int), stD p.1] := pairs_idx
theorem ss_loop {S : List Stp} (h : Fig S) {x : Int} : ∀ {T : List Stp} {A B : List Stp} {t2 t3 t4 : Sl}, S = A ++ (T ++ B) → (∀ i : Nat, i < A.length + T.length → x ∉ sg S i) → ∃ t2' t3' t4', forLoop (turnS wds NW_ (R (n + 3)) ssT ssB) (pairs A.length (T.map stD)) [some (false, fgD S), some (false, .int x), t2, t3, t4] u = .next [some (false, fgD S), some (false, .int x), t2', t3', t4'] u
  | [], A, B, t2, t3, t4, _, _ => ⟨t2, t3, t4, rfl⟩
  | s :: T, A, B, t2, t3, t4, hS, hx => by
    have hs : S[A.length]? = some s := by rw [hS]; simp
    obtain ⟨a, b, c, e⟩ := ss_no (n := n) (u := u) h hs (hx A.length (by simp)) (t2 := t2) (t3 := t3) (t4 := t4)
    obtain ⟨a2, b2, c2, e2⟩ := ss_loop h (x := x) (T := T) (A := A ++ [s]) (B := B) (t2 := a) (t3 := b) (t4 := c) (by rw [hS]; simp) (fun i hi => hx i (by simp at hi ⊢; omega))
    refine ⟨a2, b2, c2, ?_⟩
    rw [List.map_cons, pairs, forLoop, e]
    rw [List.length_append] at e2
    exact e2
theorem sos_ok {S A B : List Stp} (h : Fig S) {s : Stp} {k : Nat} (hS : S = A ++ s :: B) (hk : k < (num s).toNat) : R (n + 8) 21 [fgD S, .int (nums A + (k : Int))] u = .ok (.tup [.str s.nm, .str (wdS s k)]) u := by
  have hs : S[A.length]? = some s := by rw [hS]; simp
  have tA : S.take A.length = A := by rw [hS]; simp
  have hp := num_pos s
  have x0 := nums_pos (S := A)
  have x2 : nums A + (k : Int) < nums (S.take (A.length + 1)) := by
    rw [nums_succ hs, tA]
    omega
  have x3 := nums_le (S := S) (i := A.length + 1)
  have e1 : R (n + 7) 11 [fgD S] u = .ok .non u := need_fig h
  have e2 : R (n + 7) 10 [fgD S] u = .ok (.int (nums S)) u := count_ok h.big
  have e3 : R (n + 7) 1 [.int (nums A + (k : Int)), .int 0, .int (nums S - 1)] u = .ok .non u := need_whole_ok (n := n + 5) (by omega) (by omega)
  have hx : ∀ i : Nat, i < 0 + A.length → nums A + (k : Int) ∉ sg S i := fun i hi hm => by
    have hb := (sg_bounds hm).2
    have mo := nums_mono (S := S) (i := i + 1) (j := A.length) (by omega)
    rw [tA] at mo
    omega
  obtain ⟨a, b, c, el⟩ := ss_loop (n := n + 4) (u := u) h (x := nums A + (k : Int)) (T := A) (A := []) (B := s :: B) (t2 := none) (t3 := none) (t4 := none) (by rw [hS]; rfl) hx
  have ey := ss_yes (n := n + 4) (u := u) h hs hk (t2 := a) (t3 := b) (t4 := c)
  rw [tA] at ey
  have ef : evS wds NW_ (R (n + 7)) (.for_ ssT (.enu (.v 0)) ssB) [some (false, fgD S), some (false, .int (nums A + (k : Int))), none, none, none] u = .ret (.tup [.str s.nm, .str (wdS s k)]) u := by
    rw [evS_for]
    have sp : pairs 0 (S.map stD) = pairs 0 (A.map stD) ++ (.tup [.int (A.length : Int), stD s] :: pairs (A.length + 1) (B.map stD)) := by
      rw [fg_pairs, fg_pairs, fg_pairs, hS, List.zipIdx_append, List.zipIdx_cons, List.map_append, List.map_cons]
      simp
    have fz : freeze ((Ex.enu (.v 0)).fz (.lst (pairs 0 (S.map stD)))) [some (false, fgD S), some (false, .int (nums A + (k : Int))), none, none, none] = [some (false, fgD S), some (false, .int (nums A + (k : Int))), none, none, none] := by
      simp [Ex.fz, Ex.fresh, Ex.fv, freeze, frz]
    simp only [evE, Re.bind, List.getElem?_cons_zero, lift, enuV, fgD, ofRe, D.items] at fz ⊢
    rw [fz, sp, forLoop_app]
    have el' := el
    simp only [List.length_nil] at el'
    have el2 : forLoop (turnS wds NW_ (R (n + 7)) ssT ssB) (pairs 0 (A.map stD)) [some (false, .tup (S.map stD)), some (false, .int (nums A + (k : Int))), none, none, none] u = .next [some (false, .tup (S.map stD)), some (false, .int (nums A + (k : Int))), a, b, c] u := el'
    rw [el2]
    simp only [forLoop]
    have ey2 : turnS wds NW_ (R (n + 7)) ssT ssB (.tup [.int (A.length : Int), stD s]) [some (false, .tup (S.map stD)), some (false, .int (nums A + (k : Int))), a, b, c] u = .ret (.tup [.str s.nm, .str (wdS s k)]) u := ey
    rw [ey2]
  simp only [R] at e1 e2 e3 ef
  refine (run_succ d_step_of_sign rfl rfl).trans ?_
  simp only [d_step_of_sign, evSs]
  have s1 : evS wds NW_ (Ev.run wds NW_ prog (n + 7)) (.exp (.call 11 [(.v 0)])) (Ev.start [fgD S, .int (nums A + (k : Int))] 5) u = .next [some (false, fgD S), some (false, .int (nums A + (k : Int))), none, none, none] u := by
    simp [evS, evE, evL, ofRe, Re.bind, Ev.start, e1]
  have s2 : evS wds NW_ (Ev.run wds NW_ prog (n + 7)) (.exp (.call 1 [(.v 1), (.c (.int 0)), (.bin .Sub (.call 10 [(.v 0)]) (.c (.int 1)))])) [some (false, fgD S), some (false, .int (nums A + (k : Int))), none, none, none] u = .next [some (false, fgD S), some (false, .int (nums A + (k : Int))), none, none, none] u := by
    simp [evS, evE, evL, ofRe, Re.bind, e2, lift, subI, e3]
  rw [s1]
  simp only []
  rw [s2]
  simp only []
  simp only [ssB, ssT, d_step_of_sign, List.getD_cons_succ, List.getD_cons_zero] at ef
  rw [ef]
  rfl
theorem sos_no {S : List Stp} (h : Fig S) : R (n + 8) 21 [fgD S, .int (nums S)] u = .exc 1 u := by
  have e1 : R (n + 7) 11 [fgD S] u = .ok .non u := need_fig h
  have e2 : R (n + 7) 10 [fgD S] u = .ok (.int (nums S)) u := count_ok h.big
  have e3 : R (n + 7) 1 [.int (nums S), .int 0, .int (nums S - 1)] u = .exc 1 u := need_whole_no (n := n + 5) (by omega)
  simp only [R] at e1 e2 e3
  refine (run_succ d_step_of_sign rfl rfl).trans ?_
  simp [d_step_of_sign, evSs, evS, evE, evL, ofRe, Re.bind, Ev.start, e1, e2, lift, subI, e3, SR.fin]
end
end K09

/-! k09, the plain law: the law's own walk. -/
namespace K09
open Ev PySem
theorem num_def (s : Stp) : num s = if s.kd = "free" then 2 else if s.kd = "on line" ∨ s.kd = "on ring" then 1 else 0 := by
  unfold num numT
  by_cases h1 : s.kd = "free"
  · simp [h1]
  · by_cases h2 : s.kd = "on line"
    · rw [h2]
      decide +kernel
    · by_cases h3 : s.kd = "on ring"
      · rw [h3]
        decide +kernel
      · have b1 : (s.kd == PySem.Str.ofString "free") = false := by simpa using h1
        have b2 : (s.kd == PySem.Str.ofString "on line") = false := by simpa using h2
        have b3 : (s.kd == PySem.Str.ofString "on ring") = false := by simpa using h3
        simp [List.lookup_cons, b1, b2, b3, h1, h2, h3]
section
variable {n : Nat} {u : Cup}
theorem free_ok {s : Stp} (hs : SO s.kd) : R (n + 1) 26 [stD s] u = .ok (.int (num s)) u := by
  have i1 : ixR (stD s) (.int 1) u = .ok (.str s.kd) u := rfl
  have sf : SO "free" := by decide +kernel
  refine (run_succ d_law_free rfl rfl).trans ?_
  rw [num_def]
  by_cases h1 : s.kd = "free"
  · simp [d_law_free, evSs, evS, evE, evL, evB, ofRe, Re.bind, Ev.start, lift, SR.fin, i1, h1, eq_S sf sf]
  · by_cases h2 : s.kd = "on line" ∨ s.kd = "on ring"
    · simp [d_law_free, evSs, evS, evE, evL, evB, ofRe, Re.bind, Ev.start, lift, SR.fin, i1, h1, eq_S hs sf, in_two, h2, big]
    · simp [d_law_free, evSs, evS, evE, evL, evB, ofRe, Re.bind, Ev.start, lift, SR.fin, i1, h1, eq_S hs sf, in_two, h2, big]
theorem Fig.so {S : List Stp} (h : Fig S) {s : Stp} (hs : s ∈ S) : SO s.kd := by
  obtain ⟨i, hi, rfl⟩ := List.getElem_of_mem hs
  exact oks_so (h.at (List.getElem?_eq_getElem hi))
theorem lsigns_ok {S : List Stp} (h : Fig S) {i : Nat} {s : Stp} (hs : S[i]? = some s) : R (n + 2) 31 [fgD S, .int (i : Int)] u = .ok (.lst ((sg S i).map .int)) u := by
  have hi : i < S.length := (List.getElem?_eq_some_iff.mp hs).1
  have sl := fg_slice (S := S) (i := i) (Nat.le_of_lt hi)
  have i0 : ixR (fgD S) (.int (i : Int)) u = .ok (stD s) u := by
    show lift (ixV (fgD S) (.int (i : Int))) u = _
    simp [ixV, fgD, atI_nat, hs, lift]
  have ef : ∀ t ∈ S, ∀ u, R (n + 1) 26 [stD t] u = .ok (.int (num t)) u := fun t ht u => free_ok (h.so ht)
  have es := ef s (List.mem_of_getElem? hs) u
  have l16 := h.l2
  have hp := num_pos s
  obtain ⟨T, hT, mT⟩ : ∃ T, T = S.take i ∧ ∀ t ∈ T, t ∈ S := ⟨_, rfl, fun t ht => List.mem_of_mem_take ht⟩
  have lt : T.length ≤ 16777216 := by rw [hT, List.length_take]; omega
  have sg0 : sg S i = (List.range (num s).toNat).map fun (k : Nat) => nums T + (k : Int) := by unfold sg; rw [hs, hT]
  rw [sg0]
  rw [← hT] at sl
  clear hT
  have am : allI (T.map fun s => D.int (num s)) = some (T.map num) := by
    have e : (T.map fun s => D.int (num s)) = (T.map num).map D.int := by rw [List.map_map]; rfl
    rw [e, allI_int]
  simp only [R] at ef es
  refine (run_succ d_law_signs rfl rfl).trans ?_
  have s1 : evS wds NW_ (Ev.run wds NW_ prog (n + 1)) (.set 2 (.bi .sum [(.lc [3] (.n 3) (.sl (.v 0) (.c .non) (.v 1)) [] (.call 26 [(.v 3)]))])) (Ev.start [fgD S, .int (i : Int)] 5) u = .next [some (false, fgD S), some (false, .int (i : Int)), some (false, .int (nums T)), none, none] u := by
    simp [evS, evE, evL, evB, ofRe, Re.bind, Ev.start, lift, partE, isNonC, sl]
    simp only [fgD, D.items]
    rw [lc_mapG (g := fun s => .int (num s)) fun t ht => ?_]
    · simp [noExc, big, lt, biV, am, after, D.flat, nums, Ex.fresh]
    · simp [Tg.put, wipeE, evE, evL, Re.bind, ef t (mT t ht) u]
  simp only [d_law_signs, evSs]
  rw [s1]
  have rg : -4611686018427387904 ≤ num s ∧ num s < 4611686018427387904 := by omega
  simp [evS, evE, evL, evB, ofRe, Re.bind, Ev.start, lift, i0, es, rg, D.items]
  unfold range
  rw [lc_mapG (g := fun (k : Nat) => .int (nums T + (k : Int))) fun k hk => ?_]
  · have l2 : (num s).toNat ≤ 16777216 := by omega
    have l3 : num s ≤ 16777216 := by omega
    simp [noExc, big, l2, l3, SR.fin]
  · simp [Tg.put, wipeE, evE, evL, Re.bind, lift, addI]
/-! ### the law's steps ahead -/
def lv1 (S : List Stp) (F : List Nat) (a : Str) : List Nat := if pos S a ∈ F then F else F ++ [pos S a]
def lvN (S : List Stp) (as : List Str) (F : List Nat) : List Nat := as.foldl (lv1 S) F
theorem lv_prop {S : List Stp} : ∀ {as : List Str} {F : List Nat}, ∃ N : List Nat, lvN S as F = F ++ N ∧ (∀ a ∈ as, pos S a ∈ F ++ N) ∧ (∀ k ∈ N, ∃ a ∈ as, k = pos S a) ∧ (F.Nodup → (F ++ N).Nodup)
  | [], F => ⟨[], by simp [lvN], by simp, by simp, by simp⟩
  | a :: as, F => by
    unfold lvN
    rw [List.foldl_cons]
    by_cases h : pos S a ∈ F
    · obtain ⟨N, e, h1, h2, h3⟩ := lv_prop (S := S) (as := as) (F := F)
      have q : lv1 S F a = F := by unfold lv1; rw [if_pos h]
      refine ⟨N, by rw [q]; exact e, fun b hb => ?_, fun k hk => ?_, h3⟩
      · rcases List.mem_cons.mp hb with rfl | hb
        · exact List.mem_append_left _ h
        · exact h1 b hb
      · obtain ⟨b, hb, q⟩ := h2 k hk
        exact ⟨b, List.mem_cons_of_mem _ hb, q⟩
    · obtain ⟨N, e, h1, h2, h3⟩ := lv_prop (S := S) (as := as) (F := F ++ [pos S a])
      have q : lv1 S F a = F ++ [pos S a] := by unfold lv1; rw [if_neg h]
      refine ⟨pos S a :: N, by rw [q]; exact e.trans (by simp), fun b hb => ?_, fun k hk => ?_, fun nd => ?_⟩
      · rcases List.mem_cons.mp hb with rfl | hb
        · simp
        · simpa using h1 b hb
      · rcases List.mem_cons.mp hk with rfl | hk
        · exact ⟨a, List.mem_cons_self, rfl⟩
        · obtain ⟨b, hb, q⟩ := h2 k hk
          exact ⟨b, List.mem_cons_of_mem _ hb, q⟩
      · have z := h3 (by
          rw [List.nodup_append]
          exact ⟨nd, by simp, fun x hx y hy => by
            rw [List.mem_singleton.mp hy]
            exact fun e => h (e ▸ hx)⟩)
        simpa using z
/-- some unlike steps -/
structure Sub (S : List Stp) (F : List Nat) : Prop where
  nd : F.Nodup
  lt : ∀ i ∈ F, i < S.length
theorem Sub.len {S : List Stp} {F : List Nat} (w : Sub S F) : F.length ≤ S.length := by
  have z := List.Nodup.length_le_of_subset (l₂ := List.range S.length) w.nd fun i hi => by
    rw [List.mem_range]
    exact w.lt i hi
  simpa using z
theorem Sub.lv {S : List Stp} {F : List Nat} (w : Sub S F) {as : List Str} (ha : ∀ a ∈ as, a ∈ nms S) : Sub S (lvN S as F) := by
  obtain ⟨N, e, h1, h2, h3⟩ := lv_prop (S := S) (as := as) (F := F)
  rw [e]
  refine ⟨h3 w.nd, fun i hi => ?_⟩
  rcases List.mem_append.mp hi with z | z
  · exact w.lt i z
  · obtain ⟨a, q, rfl⟩ := h2 i z
    exact pos_len (ha a q)
def envB (S : List Stp) (at_ : Nat) (F : List Nat) (s4 s5 s6 : Sl) : En := [some (false, fgD S), some (false, .int (at_ : Int)), some (true, plD S), some (true, lnD F), s4, s5, s6, none]
abbrev oB : List Sx := match d_law_ahead.body.getD 2 .pass with
  | .for_ _ _ b => b
  | _ => []
abbrev mB : List Sx := match oB.getD 0 .pass with
  | .for_ _ _ b => b
  | _ => []
abbrev nB : List Sx := match mB.getD 0 .pass with
  | .for_ _ _ b => b
  | _ => []
theorem nin_nat {k : Nat} {F : List Nat} : cmpV .NotIn (.int (k : Int)) (lnD F) = some (.bl (!decide (k ∈ F))) := by
  have e := @nin_I (k : Int) (F.map Int.ofNat)
  have e2 : (F.map Int.ofNat).map D.int = F.map fun (k : Nat) => D.int (k : Int) := by simp [Function.comp_def]
  rw [e2] at e
  unfold lnD
  rw [e]
  refine congrArg (fun b => some (D.bl (!b))) (decide_eq_decide.mpr ⟨fun h => ?_, fun h => List.mem_map.mpr ⟨k, h, rfl⟩⟩)
  obtain ⟨a, ha, q⟩ := List.mem_map.mp h
  have : a = k := Int.ofNat.inj q
  exact this ▸ ha
theorem n_turn {S : List Stp} (h : Fig S) {at_ : Nat} {F : List Nat} {s4 s5 s6 : Sl} {a : Str} (ha : a ∈ nms S) (hb : F.length < 100) :
    turnS wds NW_ (R n) (.n 6) nB (.str a) (envB S at_ F s4 s5 s6) u = .next (envB S at_ (lv1 S F a) s4 s5 (some (false, .str a))) u := by
  have g := pl_get h ha
  have i0 : ixR (plD S) (.str a) u = .ok (.int (pos S a)) u := by
    show lift (ixV (plD S) (.str a)) u = _
    rw [g]
    rfl
  have nn := nin_nat (k := pos S a) (F := F)
  unfold lv1
  by_cases hm : pos S a ∈ F
  · simp [turnS, Tg.put, nB, mB, oB, d_law_ahead, evSs, evS, evE, evL, ofRe, Re.bind, envB, i0, lift, nn, hm]
  · have l1 : F.length < 16777216 := by omega
    simp [turnS, Tg.put, nB, mB, oB, d_law_ahead, evSs, evS, evE, evL, ofRe, Re.bind, envB, i0, lift, nn, hm]
    simp [lnD, D.flat, big, l1]
theorem n_loop {S : List Stp} (h : Fig S) {at_ : Nat} {s4 s5 : Sl} : ∀ {as : List Str} {F : List Nat} {s6 : Sl}, (∀ a ∈ as, a ∈ nms S) → Sub S F →
    ∃ t6, forLoop (turnS wds NW_ (R n) (.n 6) nB) (as.map .str) (envB S at_ F s4 s5 s6) u = .next (envB S at_ (lvN S as F) s4 s5 t6) u
  | [], F, s6, _, _ => ⟨s6, rfl⟩
  | a :: as, F, s6, hm, w => by
    have l16 := h.l2
    have wl := w.len
    have e := n_turn (n := n) (u := u) h (at_ := at_) (F := F) (s4 := s4) (s5 := s5) (s6 := s6) (hm a List.mem_cons_self) (by omega)
    have w' : Sub S (lv1 S F a) := w.lv (as := [a]) fun b hb => by rw [List.mem_singleton.mp hb]; exact hm a List.mem_cons_self
    obtain ⟨t6, e2⟩ := n_loop h (at_ := at_) (s4 := s4) (s5 := s5) (as := as) (F := lv1 S F a) (s6 := some (false, .str a)) (fun b hb => hm b (List.mem_cons_of_mem _ hb)) w'
    exact ⟨t6, by rw [List.map_cons, forLoop, e]; exact e2⟩
/-- the names of the points right ahead -/
def dps (S : List Stp) (j : Nat) : List Str := match S[j]? with
  | some s => depsOf s
  | none => []
theorem adj_dps {S : List Stp} {j : Nat} : adj S j = (dps S j).map (pos S) := by
  unfold adj dps
  cases S[j]? <;> rfl
theorem dps_mem {S : List Stp} (h : Fig S) {j : Nat} : ∀ a ∈ dps S j, a ∈ nms S := fun a ha => by
  unfold dps at ha
  cases e : S[j]? with
  | none => rw [e] at ha; cases ha
  | some s =>
    rw [e] at ha
    have z := deps_mem (h.at e) a ha
    rw [nms_take] at z
    exact List.mem_of_mem_take z
theorem m_turn {S : List Stp} (h : Fig S) {at_ j : Nat} (hj : j < S.length) {F : List Nat} {s4 s5 s6 : Sl} (w : Sub S F) :
    ∃ t6, turnS wds NW_ (R n) (.n 5) mB (.int (j : Int)) (envB S at_ F s4 s5 s6) u = .next (envB S at_ (lvN S (dps S j) F) s4 (some (false, .int (j : Int))) t6) u := by
  have hs : S[j]? = some S[j] := List.getElem?_eq_getElem hj
  have ok := h.at hs
  obtain ⟨t6, e⟩ := n_loop (n := n) (u := u) h (at_ := at_) (s4 := s4) (s5 := some (false, .int (j : Int))) (as := dps S j) (F := F) (s6 := s6) (dps_mem h) w
  refine ⟨t6, ?_⟩
  have i0 : ixR (fgD S) (.int (j : Int)) u = .ok (stD S[j]) u := by
    show lift (ixV (fgD S) (.int (j : Int))) u = _
    simp [ixV, fgD, atI_nat, hs, lift]
  have i1 : ixR (stD S[j]) (.int 1) u = .ok (.str S[j].kd) u := rfl
  have i2 : ixR (stD S[j]) (.int 2) u = .ok (.tup S[j].ar) u := rfl
  have tp : (Tg.n 5).put (.int (j : Int)) (envB S at_ F s4 s5 s6) = some (envB S at_ F s4 (some (false, .int (j : Int))) s6) := by simp [Tg.put, envB]
  unfold turnS
  rw [tp]
  simp only [mB, oB, d_law_ahead, List.getD_cons_succ, List.getD_cons_zero, evSs]
  rw [evS_for]
  have src : evE wds NW_ (R n) (.ite (.cmp .NotEq (.ix (.ix (.v 0) (.v 5)) (.c (.int 1))) (.c (.str (PySem.Str.ofString "fixed")))) (.ix (.ix (.v 0) (.v 5)) (.c (.int 2))) (.tup [])) (envB S at_ F s4 (some (false, .int (j : Int))) s6) u = .ok (.tup ((dps S j).map .str)) u := by
    have e2 : dps S j = depsOf S[j] := by unfold dps; rw [hs]
    rw [e2]
    by_cases hk : S[j].kd = "fixed"
    · have d0 : depsOf S[j] = [] := by unfold depsOf; rw [if_pos hk]
      simp [evE, evL, Re.bind, envB, i0, i1, hk, lift, ne_S so_fixed so_fixed, d0, big]
    · have d0 := deps_ar ok hk
      simp [evE, evL, Re.bind, envB, i0, i1, i2, hk, lift, ne_S (oks_so ok) so_fixed, d0]
  rw [src]
  have fz : freeze ((Ex.ite (.cmp .NotEq (.ix (.ix (.v 0) (.v 5)) (.c (.int 1))) (.c (.str (PySem.Str.ofString "fixed")))) (.ix (.ix (.v 0) (.v 5)) (.c (.int 2))) (.tup [])).fz (.tup ((dps S j).map .str))) (envB S at_ F s4 (some (false, .int (j : Int))) s6) = envB S at_ F s4 (some (false, .int (j : Int))) s6 := by
    simp [Ex.fz, Ex.fresh, Ex.fv, Ex.fvs, freeze, frz_some, frz_not, envB]
  simp only [ofRe, D.items]
  rw [fz]
  have e' := e
  simp only [nB, mB, oB, d_law_ahead, List.getD_cons_succ, List.getD_cons_zero] at e'
  rw [e']
def mdN (S : List Stp) (J : List Nat) (F : List Nat) : List Nat := J.foldl (fun F j => lvN S (dps S j) F) F
theorem m_loop {S : List Stp} (h : Fig S) {at_ : Nat} {s4 : Sl} : ∀ {J F : List Nat} {s5 s6 : Sl}, (∀ j ∈ J, j < S.length) → Sub S F →
    ∃ t5 t6, forLoop (turnS wds NW_ (R n) (.n 5) mB) (J.map fun (k : Nat) => .int (k : Int)) (envB S at_ F s4 s5 s6) u = .next (envB S at_ (mdN S J F) s4 t5 t6) u
  | [], F, s5, s6, _, _ => ⟨s5, s6, rfl⟩
  | j :: J, F, s5, s6, hJ, w => by
    obtain ⟨t6, e⟩ := m_turn (n := n) (u := u) h (at_ := at_) (hJ j List.mem_cons_self) (F := F) (s4 := s4) (s5 := s5) (s6 := s6) w
    obtain ⟨a, b, e2⟩ := m_loop h (at_ := at_) (s4 := s4) (J := J) (F := lvN S (dps S j) F) (s5 := some (false, .int (j : Int))) (s6 := t6) (fun k hk => hJ k (List.mem_cons_of_mem _ hk)) (w.lv (dps_mem h))
    exact ⟨a, b, by rw [List.map_cons, forLoop, e]; exact e2⟩
theorem md_prop {S : List Stp} : ∀ {J F : List Nat}, ∃ N : List Nat, mdN S J F = F ++ N ∧ (∀ j ∈ J, ∀ k ∈ adj S j, k ∈ F ++ N) ∧ (∀ k ∈ N, ∃ j ∈ J, k ∈ adj S j) ∧ (F.Nodup → (F ++ N).Nodup)
  | [], F => ⟨[], by simp [mdN], by simp, by simp, by simp⟩
  | j :: J, F => by
    obtain ⟨N1, e1, a1, a2, a3⟩ := lv_prop (S := S) (as := dps S j) (F := F)
    obtain ⟨N2, e2, b1, b2, b3⟩ := md_prop (S := S) (J := J) (F := F ++ N1)
    refine ⟨N1 ++ N2, ?_, fun i hi k hk => ?_, fun k hk => ?_, fun nd => ?_⟩
    · unfold mdN
      rw [List.foldl_cons, e1]
      exact e2.trans (by simp)
    · rcases List.mem_cons.mp hi with rfl | hi
      · rw [adj_dps] at hk
        obtain ⟨a, ha, rfl⟩ := List.mem_map.mp hk
        rw [← List.append_assoc]
        exact List.mem_append_left _ (a1 a ha)
      · have z := b1 i hi k hk
        rwa [List.append_assoc] at z
    · rcases List.mem_append.mp hk with hk | hk
      · obtain ⟨a, ha, rfl⟩ := a2 k hk
        exact ⟨j, List.mem_cons_self, by rw [adj_dps]; exact List.mem_map_of_mem ha⟩
      · obtain ⟨i, hi, q⟩ := b2 k hk
        exact ⟨i, List.mem_cons_of_mem _ hi, q⟩
    · have z := b3 (a3 nd)
      rwa [List.append_assoc] at z
/-- after so many turns -/
structure Lt_ (S : List Stp) (at_ t : Nat) (F : List Nat) : Prop where
  nd : F.Nodup
  base : at_ ∈ F
  re : ∀ i ∈ F, Reach S at_ i
  cl : ∀ i ∈ F, at_ < i + t → ∀ j ∈ adj S i, j ∈ F
theorem Lt_.sub {S : List Stp} (h : Fig S) {at_ t : Nat} (hat : at_ < S.length) {F : List Nat} (w : Lt_ S at_ t F) : Sub S F := ⟨w.nd, fun i hi => by have := (w.re i hi).le h; omega⟩
theorem Lt_.next {S : List Stp} (h : Fig S) {at_ t : Nat} {F : List Nat} (w : Lt_ S at_ t F) : Lt_ S at_ (t + 1) (mdN S F F) := by
  obtain ⟨N, e, a1, a2, a3⟩ := md_prop (S := S) (J := F) (F := F)
  rw [e]
  refine ⟨a3 w.nd, List.mem_append_left _ w.base, fun i hi => ?_, fun i hi lt j hj => ?_⟩
  · rcases List.mem_append.mp hi with z | z
    · exact w.re i z
    · obtain ⟨k, hk, q⟩ := a2 i z
      exact .step (w.re k hk) q
  · rcases List.mem_append.mp hi with z | z
    · exact a1 i z j hj
    · obtain ⟨k, hk, q⟩ := a2 i z
      have lk := adj_lt h q
      exact a1 i (w.cl k hk (by omega) i q) j hj
theorem la_s1 {S : List Stp} (h : Fig S) {at_ : Nat} : evS wds NW_ (Ev.run wds NW_ prog n) (.set 2 (.bi .dict [(.lc [5, 7] (.t [(.n 5), (.n 7)]) (.enu (.v 0)) [] (.tup [(.ix (.v 7) (.c (.int 0))), (.v 5)]))])) (Ev.start [fgD S, .int (at_ : Int)] 8) u = .next [some (false, fgD S), some (false, .int (at_ : Int)), some (true, plD S), none, none, none, none, none] u := by
  have hb : S.length ≤ 16777216 := by have := h.l2; omega
  have own : D.ownable (plD S) = true := by
    have : D.flats (plV S) = true := flats_map fun _ _ => rfl
    simp [D.ownable, plD, D.isBox, D.its, this]
  simp [evS, evE, evL, evB, ofRe, Re.bind, Ev.start, lift, enuV, fgD, pairs_idx, D.items]
  rw [lc_mapG (g := fun p : Stp × Nat => .tup [.str p.1.nm, .int (p.2 : Int)]) fun p hp => ?_]
  · simp [noExc, hb, big, pl_dict h, lift, after, Ex.fresh, own, fgD, Re.bind, ofRe]
  · simp [Tg.put, Tg.puts, wipeE, stD, ixR, ixV, L2.atI, L2.ixN, lift, big]
theorem la_s2 {S : List Stp} {at_ : Nat} : evS wds NW_ (Ev.run wds NW_ prog n) (.set 3 (.lst [.v 1])) [some (false, fgD S), some (false, .int (at_ : Int)), some (true, plD S), none, none, none, none, none] u = .next (envB S at_ [at_] none none none) u := by
  simp [evS, evE, evL, evB, ofRe, Re.bind, lift, Ex.fresh, D.ownable, D.isBox, D.its, D.flats, D.flat, envB, lnD, big, after]
theorem range_ln {k : Nat} : (range (k : Int)).length = k := by simp [range]
theorem la_src {S : List Stp} (h : Fig S) {at_ : Nat} : evE wds NW_ (Ev.run wds NW_ prog n) (.rng (.bi .len [(.v 0)])) (envB S at_ [at_] none none none) u = .ok (.lst (range (S.length : Int))) u := by
  have l16 := h.l2
  refine rng_ok ?_ (by omega) (by omega)
  simp [evE, evL, Re.bind, envB, lift, biV, fgD]
theorem la_turn {S : List Stp} (h : Fig S) {at_ : Nat} {x : D} {F : List Nat} {s4 s5 s6 : Sl} (sF : Sub S F) : ∃ t5 t6, turnS wds NW_ (R n) (.n 4) oB x (envB S at_ F s4 s5 s6) u = .next (envB S at_ (mdN S F F) (some (false, x)) t5 t6) u := by
  obtain ⟨t5, t6, e⟩ := m_loop (n := n) (u := u) h (at_ := at_) (s4 := some (false, x)) (J := F) (F := F) (s5 := s5) (s6 := s6) (fun j hj => sF.lt j hj) sF
  refine ⟨t5, t6, ?_⟩
  have tp : (Tg.n 4).put x (envB S at_ F s4 s5 s6) = some (envB S at_ F (some (false, x)) s5 s6) := by simp [Tg.put, envB]
  unfold turnS
  rw [tp]
  simp only [oB, d_law_ahead, List.getD_cons_succ, List.getD_cons_zero, evSs]
  rw [evS_for]
  have src : evE wds NW_ (R n) (.bi .list [.v 3]) (envB S at_ F (some (false, x)) s5 s6) u = .ok (lnD F) u := by
    simp [evE, evL, Re.bind, envB, lift, biV, lnD]
  rw [src]
  have fl : D.flats (F.map fun (k : Nat) => D.int (k : Int)) = true := flats_map fun _ _ => rfl
  have fz : freeze ((Ex.bi .list [.v 3]).fz (lnD F)) (envB S at_ F (some (false, x)) s5 s6) = envB S at_ F (some (false, x)) s5 s6 := by
    simp [Ex.fz, Ex.fresh, D.ownable, lnD, D.isBox, D.its, fl, freeze, frz_some, frz_not, envB]
  simp only [ofRe]
  rw [fz]
  simp only [lnD, D.items]
  simp only [mB, oB, d_law_ahead, List.getD_cons_succ, List.getD_cons_zero] at e
  rw [e]
theorem la_for {S : List Stp} (h : Fig S) {at_ : Nat} (hat : at_ < S.length) : ∀ {xs : List D} {t : Nat} {F : List Nat} {s4 s5 s6 : Sl}, Lt_ S at_ t F → ∃ F' t4 t5 t6, forLoop (turnS wds NW_ (R n) (.n 4) oB) xs (envB S at_ F s4 s5 s6) u = .next (envB S at_ F' t4 t5 t6) u ∧ Lt_ S at_ (t + xs.length) F'
  | [], t, F, s4, s5, s6, w => ⟨F, s4, s5, s6, rfl, w⟩
  | x :: xs, t, F, s4, s5, s6, w => by
    obtain ⟨t5, t6, e⟩ := la_turn (n := n) (u := u) h (x := x) (s4 := s4) (s5 := s5) (s6 := s6) (w.sub h hat)
    obtain ⟨F', a, b, c, e2, w2⟩ := la_for h hat (xs := xs) (s4 := some (false, x)) (s5 := t5) (s6 := t6) (w.next h)
    refine ⟨F', a, b, c, ?_, by rw [List.length_cons, show t + (xs.length + 1) = t + 1 + xs.length by omega]; exact w2⟩
    rw [forLoop, e]
    exact e2
theorem la_s3 {S : List Stp} (h : Fig S) {at_ : Nat} (hat : at_ < S.length) : ∃ F t4 t5 t6, evS wds NW_ (R n) (.for_ (.n 4) (.rng (.bi .len [(.v 0)])) oB) (envB S at_ [at_] none none none) u = .next (envB S at_ F t4 t5 t6) u ∧ Lt_ S at_ S.length F := by
  have lt0 : Lt_ S at_ 0 [at_] := ⟨by simp, by simp, fun i hi => by rw [List.mem_singleton.mp hi]; exact .refl, fun i hi lt => by rw [List.mem_singleton.mp hi] at lt; omega⟩
  obtain ⟨F, a, b, c, e, w⟩ := la_for (n := n) (u := u) h hat (xs := range (S.length : Int)) (s4 := none) (s5 := none) (s6 := none) lt0
  rw [range_ln, Nat.zero_add] at w
  refine ⟨F, a, b, c, ?_, w⟩
  rw [evS_for]
  have sc := la_src (n := n) (u := u) h (at_ := at_)
  simp only [R] at e ⊢
  rw [sc]
  have fz : freeze ((Ex.rng (.bi .len [(.v 0)])).fz (.lst (range (S.length : Int)))) (envB S at_ [at_] none none none) = envB S at_ [at_] none none none := by
    simp [Ex.fz, Ex.fresh, Ex.fv, Ex.fvs, freeze, frz, envB]
  simp only [ofRe, D.items]
  rw [fz]
  exact e
theorem la_srt {F : List Nat} : biV .sorted [lnD F] = some (.lst ((srt F).map .int)) := by
  have e1 : (F.map fun (k : Nat) => D.int (k : Int)) = (F.map Int.ofNat).map D.int := by simp [Function.comp_def]
  show sortL (F.map fun (k : Nat) => D.int (k : Int)) = _
  rw [e1, sortL_int]
  rfl
theorem la_end {S : List Stp} {at_ : Nat} {F : List Nat} {s4 s5 s6 : Sl} : evS wds NW_ (R n) (.ret (.bi .sorted [(.v 3)])) (envB S at_ F s4 s5 s6) u = .ret (.lst ((srt F).map .int)) u := by
  simp [evS, evE, evL, ofRe, Re.bind, envB, lift, la_srt]
theorem lahead_ok {S : List Stp} (h : Fig S) {at_ : Nat} (hat : at_ < S.length) : ∃ F, AheadOk S at_ F ∧ F.length ≤ 16 ∧ R (n + 1) 30 [fgD S, .int (at_ : Int)] u = .ok (.lst ((srt F).map .int)) u := by
  have l16 := h.l2
  obtain ⟨F, s4, s5, s6, e3, wF⟩ := la_s3 (n := n) (u := u) h hat
  refine ⟨F, ⟨wF.nd, fun i => ⟨wF.re i, fun r => closed_reach wF.base (fun i hi => wF.cl i hi (by omega)) r⟩⟩, by have := (wF.sub h hat).len; omega, ?_⟩
  exact run_ret d_law_ahead rfl rfl ((evSs_next (la_s1 h)).trans ((evSs_next la_s2).trans ((evSs_next e3).trans (evSs_ret la_end))))
end
end K09

/-! k09, the plain law: a good figure is right. -/
namespace K09
open Ev PySem
def wl (s : Stp) : List Str := (List.range (num s).toNat).map fun k => wdS s k
def evD (s : Stp) (w : Str) : D := .tup [.str s.nm, .str w]
def evr (T : List Stp) : List D := T.flatMap fun s => (wl s).map (evD s)
theorem evr_cons {s : Stp} {T : List Stp} : evr (s :: T) = (wl s).map (evD s) ++ evr T := by simp [evr]
theorem evr_app {S T : List Stp} : evr (S ++ T) = evr S ++ evr T := by simp [evr]
theorem wl_len {s : Stp} : ((wl s).map (evD s)).length = (num s).toNat := by simp [wl]
theorem evr_len : ∀ {S : List Stp}, ((evr S).length : Int) = nums S
  | [] => rfl
  | s :: S => by
    rw [evr_cons, List.length_append, wl_len]
    have e := evr_len (S := S)
    have hp := (num_pos s).1
    have : nums (s :: S) = num s + nums S := by simp [nums]
    omega
theorem evr_at : ∀ {S : List Stp} {m : Nat}, m < (evr S).length → ∃ A s B k, S = A ++ s :: B ∧ k < (num s).toNat ∧ (m : Int) = nums A + (k : Int) ∧ (evr S)[m]? = some (evD s (wdS s k))
  | [], m, h => by simp [evr] at h
  | s :: S, m, h => by
    have hp := (num_pos s).1
    by_cases hm : m < (num s).toNat
    · refine ⟨[], s, S, m, rfl, hm, by simp [nums], ?_⟩
      rw [evr_cons, List.getElem?_append_left (by rw [wl_len]; exact hm)]
      simp [wl, hm]
    · rw [evr_cons, List.length_append, wl_len] at h
      obtain ⟨A, t, B, k, e1, e2, e3, e4⟩ := evr_at (S := S) (m := m - (num s).toNat) (by omega)
      refine ⟨s :: A, t, B, k, by rw [e1]; rfl, e2, ?_, ?_⟩
      · have : nums (s :: A) = num s + nums A := by simp [nums]
        omega
      · rw [evr_cons, List.getElem?_append_right (by rw [wl_len]; omega), wl_len]
        exact e4
theorem evr_flat {S : List Stp} : D.flats (evr S) = true := by
  induction S with
  | nil => rfl
  | cons s S ih =>
    rw [evr_cons, Ev.flats_app2, ih, flats_map (fun w _ => by simp [evD, D.flat, D.flats])]
    rfl
section
variable {n : Nat} {u : Cup}
def envR (S : List Stp) (E : List D) (s2 s3 s4 s5 s6 s7 s8 s9 s10 s11 s12 : Sl) : En := [some (false, fgD S), some (true, .lst E), s2, s3, s4, s5, s6, s7, s8, s9, s10, s11, s12, none]
abbrev bhB : List Sx := [(.set 8 (.bin .Add (.v 8) (.call 31 [(.v 0), (.v 9)])))]
theorem lb_loop {S : List Stp} (h : Fig S) {E : List D} {s2 s3 s4 s5 s6 s7 s10 s11 s12 : Sl} : ∀ {A B : List Int} {t9 : Sl} {b : Bool}, (∀ i ∈ A, ∃ k : Nat, i = (k : Int) ∧ k < S.length) → B.length + 3 * A.length ≤ 1000 →
    ∃ t9' b', forLoop (turnS wds NW_ (R (n + 2)) (.n 9) bhB) (A.map .int) (envR S E s2 s3 s4 s5 s6 s7 (some (b, .lst (B.map .int))) t9 s10 s11 s12) u = .next (envR S E s2 s3 s4 s5 s6 s7 (some (b', .lst ((B ++ bh S A).map .int))) t9' s10 s11 s12) u
  | [], B, t9, b, _, _ => ⟨t9, b, by simp [forLoop, bh]⟩
  | i :: A, B, t9, b, hA, hl => by
    obtain ⟨k, rfl, hk⟩ := hA i List.mem_cons_self
    have hs : S[k]? = some S[k] := List.getElem?_eq_getElem hk
    have e : R (n + 2) 31 [fgD S, .int (k : Int)] u = .ok (.lst ((sg S k).map .int)) u := lsigns_ok h hs
    have l2 : (sg S k).length ≤ 2 := by rw [sg_len hs]; have := (num_pos S[k]).2; omega
    rw [List.length_cons] at hl
    obtain ⟨t9', b', e2⟩ := lb_loop h (E := E) (s2 := s2) (s3 := s3) (s4 := s4) (s5 := s5) (s6 := s6) (s7 := s7) (s10 := s10) (s11 := s11) (s12 := s12) (A := A) (B := B ++ sg S k) (t9 := some (false, .int (k : Int))) (b := true) (fun j hj => hA j (List.mem_cons_of_mem _ hj)) (by rw [List.length_append]; omega)
    refine ⟨t9', b', ?_⟩
    have ad := addL (xs := B.map D.int) (ys := (sg S k).map D.int) (by simp; omega)
    have own : D.ownable (.lst (B.map D.int ++ (sg S k).map D.int)) = true := by
      have q : D.flats (B.map D.int ++ (sg S k).map D.int) = true := by
        rw [← List.map_append]
        exact flats_int
      simp [D.ownable, D.isBox, D.its, q]
    simp only [R] at e
    have turn : turnS wds NW_ (R (n + 2)) (.n 9) bhB (.int (k : Int)) (envR S E s2 s3 s4 s5 s6 s7 (some (b, .lst (B.map .int))) t9 s10 s11 s12) u = .next (envR S E s2 s3 s4 s5 s6 s7 (some (true, .lst ((B ++ sg S k).map .int))) (some (false, .int (k : Int))) s10 s11 s12) u := by
      simp [turnS, Tg.put, bhB, evSs, evS, evE, evL, ofRe, Re.bind, e, lift, ad, after, Ex.fresh, own, envR]
    rw [List.map_cons, forLoop, turn]
    refine e2.trans ?_
    simp [bh]
/-- signs behind are ascending -/
theorem bh_sorted {S : List Stp} {F : List Nat} (nd : F.Nodup) : (bh S (srt F)).Pairwise (· ≤ ·) := by
  have lt : (srt F).Pairwise (· < ·) := by
    have h1 : (srt F).Pairwise (· ≤ ·) := sortI_sorted _
    have h2 : (srt F).Nodup := by
      unfold srt
      refine ((sortI_perm _).nodup_iff).mpr ?_
      rw [List.Nodup, List.pairwise_map]
      exact nd.imp fun h e => h (Int.ofNat.inj e)
    exact (h1.and h2).imp fun ⟨a, b⟩ => by omega
  unfold bh
  rw [List.pairwise_flatMap]
  refine ⟨fun i _ => sg_sorted, ?_⟩
  refine List.Pairwise.imp_of_mem (fun {i j} hi hj hij => ?_) lt
  intro x hx y hy
  obtain ⟨a, _, rfl⟩ := mem_srt.mp hi
  obtain ⟨b, _, rfl⟩ := mem_srt.mp hj
  have h1 := (sg_bounds hx).2
  have h2 := (sg_bounds hy).1
  have h3 := nums_mono (S := S) (i := a + 1) (j := b) (by omega)
  simp only [Int.toNat_natCast] at h1 h2
  omega
abbrev w10 : Sx := .set 10 (.ite (.cmp .Eq (.bi .len [(.v 7)]) (.c (.int 2))) (.lst [(.c (.str (PySem.Str.ofString "x"))), (.c (.str (PySem.Str.ofString "y")))]) (.bin .Mult (.lst [(.c (.str (PySem.Str.ofString "t")))]) (.bi .len [(.v 7)])))
abbrev e01 : Sx := .set 1 (.bin .Add (.v 1) (.lc [13] (.n 13) (.v 10) [] (.tup [(.v 3), (.v 13)])))
theorem w10_ok {S : List Stp} {E G : List D} {s : Stp} {s2 s3 s4 s5 s6 s8 s9 s10 s11 s12 : Sl} (l0 : (G.length : Int) = num s) (hp : 0 ≤ num s ∧ num s ≤ 2) :
    evS wds NW_ (R n) w10 (envR S E s2 s3 s4 s5 s6 (some (false, .lst G)) s8 s9 s10 s11 s12) u = .next (envR S E s2 s3 s4 s5 s6 (some (false, .lst G)) s8 s9 (some (false, .lst ((wl s).map .str))) s11 s12) u := by
  have lg : evE wds NW_ (R n) (.bi .len [(.v 7)]) (envR S E s2 s3 s4 s5 s6 (some (false, .lst G)) s8 s9 s10 s11 s12) u = .ok (.int (num s)) u := by
    simp only [evE, evL, Re.bind, envR, List.getElem?_cons_succ, List.getElem?_cons_zero, lift, biV, l0]
  have cv : evE wds NW_ (R n) (.cmp .Eq (.bi .len [(.v 7)]) (.c (.int 2))) (envR S E s2 s3 s4 s5 s6 (some (false, .lst G)) s8 s9 s10 s11 s12) u = .ok (.bl (num s == 2)) u := by
    rw [evE, lg]
    simp only [Re.bind, evE, lift, eq_I]
  have vv : evE wds NW_ (R n) (.ite (.cmp .Eq (.bi .len [(.v 7)]) (.c (.int 2))) (.lst [(.c (.str (PySem.Str.ofString "x"))), (.c (.str (PySem.Str.ofString "y")))]) (.bin .Mult (.lst [(.c (.str (PySem.Str.ofString "t")))]) (.bi .len [(.v 7)]))) (envR S E s2 s3 s4 s5 s6 (some (false, .lst G)) s8 s9 s10 s11 s12) u = .ok (.lst ((wl s).map .str)) u := by
    have c3 : num s = 0 ∨ num s = 1 ∨ num s = 2 := by omega
    rw [evE, cv]
    have tv : ∀ env, evE wds NW_ (R n) (.lst [(.c (.str (PySem.Str.ofString "t")))]) env u = .ok (.lst [.str "t"]) u := fun env => by
      simp [evE, evL, Re.bind, big]
    have w0 : num s = 0 → wl s = [] := fun c => by simp [wl, c]
    have w1 : num s = 1 → wl s = [("t" : Str)] := fun c => by simp [wl, c, wdS]
    have w2 : num s = 2 → wl s = [("x" : Str), ("y" : Str)] := fun c => by
      have r2 : List.range 2 = [0, 1] := rfl
      simp [wl, c, wdS, r2]
    have m : binV .Mult (.lst [.str "t"]) (.int (num s)) = some (.lst (rep (num s).toNat [.str "t"])) := mulL hp.1 (by omega) (by simp)
    have mv : evE wds NW_ (R n) (.bin .Mult (.lst [(.c (.str (PySem.Str.ofString "t")))]) (.bi .len [(.v 7)])) (envR S E s2 s3 s4 s5 s6 (some (false, .lst G)) s8 s9 s10 s11 s12) u = .ok (.lst (rep (num s).toNat [.str "t"])) u := by
      rw [evE, tv, Re.bind, lg, Re.bind, m]
      rfl
    rcases c3 with c | c | c
    · have f : (num s == 2) = false := by rw [c]; rfl
      rw [f, Re.bind]
      simp only []
      rw [mv, w0 c, c]
      rfl
    · have f : (num s == 2) = false := by rw [c]; rfl
      rw [f, Re.bind]
      simp only []
      rw [mv, w1 c, c]
      rfl
    · have f : (num s == 2) = true := by rw [c]; rfl
      rw [f, Re.bind]
      simp only []
      rw [w2 c]
      simp [evE, evL, Re.bind, big]
  rw [evS, vv]
  simp [ofRe, after, D.flat, Ex.fresh, Ex.fv, Ex.fvs, freeze, frz_some, frz_not, envR]
theorem e01_ok {S : List Stp} {E : List D} {s : Stp} {s2 s4 s5 s6 s7 s8 s9 s11 s12 : Sl} (hE : D.flats E = true) (hl : E.length ≤ 1000) :
    evS wds NW_ (R n) e01 (envR S E s2 (some (false, .str s.nm)) s4 s5 s6 s7 s8 s9 (some (false, .lst ((wl s).map .str))) s11 s12) u = .next (envR S (E ++ (wl s).map (evD s)) s2 (some (false, .str s.nm)) s4 s5 s6 s7 s8 s9 (some (false, .lst ((wl s).map .str))) s11 s12) u := by
  have lw : (wl s).length ≤ 2 := by have := (num_pos s).2; simp [wl]; omega
  have cv : evE wds NW_ (R n) (.lc [13] (.n 13) (.v 10) [] (.tup [(.v 3), (.v 13)])) (envR S E s2 (some (false, .str s.nm)) s4 s5 s6 s7 s8 s9 (some (false, .lst ((wl s).map .str))) s11 s12) u = .ok (.lst ((wl s).map (evD s))) u := by
    simp only [evE, Re.bind, envR, List.getElem?_cons_succ, List.getElem?_cons_zero, D.items]
    rw [lc_mapG (g := evD s) fun w hw => ?_]
    · have lb : (wl s).length ≤ 16777216 := by omega
      simp [noExc, big, lb]
    · simp [Tg.put, wipeE, evB, evE, evL, Re.bind, big, evD]
  have ad := addL (xs := E) (ys := (wl s).map (evD s)) (by simp; omega)
  have fl : D.flats (E ++ (wl s).map (evD s)) = true := by
    rw [flats_app2, hE, flats_map (fun w _ => by simp [evD, D.flat, D.flats])]
    rfl
  have vv : evE wds NW_ (R n) (.bin .Add (.v 1) (.lc [13] (.n 13) (.v 10) [] (.tup [(.v 3), (.v 13)]))) (envR S E s2 (some (false, .str s.nm)) s4 s5 s6 s7 s8 s9 (some (false, .lst ((wl s).map .str))) s11 s12) u = .ok (.lst (E ++ (wl s).map (evD s))) u := by
    rw [evE]
    have v1 : evE wds NW_ (R n) (.v 1) (envR S E s2 (some (false, .str s.nm)) s4 s5 s6 s7 s8 s9 (some (false, .lst ((wl s).map .str))) s11 s12) u = .ok (.lst E) u := by
      simp [evE, envR]
    rw [v1, Re.bind, cv]
    simp only [Re.bind, ad, lift]
  rw [evS, vv]
  simp [ofRe, after, D.ownable, D.isBox, D.its, fl, Ex.fresh, envR]
abbrev rB : List Sx := match d_law_right.body.getD 1 .pass with
  | .for_ _ _ b => b
  | _ => []
abbrev rT : Tg := .t [.n 2, .t [.n 3, .n 4, .n 5]]
theorem r_turn {S : List Stp} (h : Fig S) {i : Nat} {s : Stp} (hs : S[i]? = some s) {E : List D} (hE : D.flats E = true) (hl : E.length ≤ 1000) {s2 s3 s4 s5 s6 s7 s8 s9 s10 s11 s12 : Sl} :
    ∃ t2 t3 t4 t5 t6 t7 t8 t9 t10, turnS wds NW_ (R (n + 9)) rT rB (.tup [.int (i : Int), stD s]) (envR S E s2 s3 s4 s5 s6 s7 s8 s9 s10 s11 s12) u = .next (envR S (E ++ (wl s).map (evD s)) t2 t3 t4 t5 t6 t7 t8 t9 t10 s11 s12) u := by
  have hi : i < S.length := (List.getElem?_eq_some_iff.mp hs).1
  obtain ⟨F, hF, l16, e30⟩ := lahead_ok (n := n + 8) (u := u) h hi
  have e31 : R (n + 9) 31 [fgD S, .int (i : Int)] u = .ok (.lst ((sg S i).map .int)) u := lsigns_ok (n := n + 7) h hs
  have lF : (srt F).length ≤ 16 := by
    unfold srt
    rw [(sortI_perm _).length_eq]
    simpa using l16
  have hA : ∀ j ∈ srt F, ∃ k : Nat, j = (k : Int) ∧ k < S.length := fun j hj => by
    obtain ⟨k, hk, rfl⟩ := mem_srt.mp hj
    exact ⟨k, rfl, by have := ((hF.2 k).mp hk).le h; omega⟩
  have lb : (bh S (srt F)).length ≤ 100 := by
    have : ∀ A : List Int, (bh S A).length ≤ 2 * A.length := fun A => by
      induction A with
      | nil => simp [bh]
      | cons a A ih =>
        have q : (sg S a.toNat).length ≤ 2 := by
          unfold sg
          cases S[a.toNat]? with
          | none => simp
          | some t => have := (num_pos t).2; simp; omega
        simp only [bh, List.flatMap_cons, List.length_append, List.length_cons] at ih ⊢
        omega
    have := this (srt F)
    omega
  obtain ⟨t9, b8, e3⟩ := lb_loop (n := n + 7) (u := u) h (E := E) (s2 := some (false, .int (i : Int))) (s3 := some (false, .str s.nm)) (s4 := some (false, .str s.kd)) (s5 := some (false, .tup s.ar)) (s6 := some (false, .lst ((srt F).map .int))) (s7 := some (false, .lst ((sg S i).map .int))) (s10 := s10) (s11 := s11) (s12 := s12) (A := srt F) (B := []) (t9 := s9) (b := true) hA (by simp; omega)
  rw [List.nil_append] at e3
  have e18 : R (n + 9) 18 [fgD S, .str s.nm] u = .ok (.tup ((sg S i).map .int)) u := own_ok h hs
  have e20 : R (n + 9) 20 [fgD S, .str s.nm] u = .ok (.tup ((srt F).map .int)) u := stepsahead_ok h hs hF
  have e19 : R (n + 9) 19 [fgD S, .str s.nm] u = .ok (.tup ((bh S (srt F)).map .int)) u := behind_ok h hs hF
  have sb : sortI (bh S (srt F)) = bh S (srt F) := sortI_of (.refl _) (bh_sorted hF.1)
  have hp := num_pos s
  have lsg := sg_len hs
  have e25 : R (n + 9) 25 [.lst [.tup ((sg S i).map .int), .tup ((srt F).map .int), .tup ((bh S (srt F)).map .int)], .lst [.tup ((sg S i).map .int), .tup ((srt F).map .int), .tup ((bh S (srt F)).map .int)]] u = .ok (.bl true) u := by
    refine like_lst (n := n + 7) (by simp) fun x hx u => ?_
    simp only [List.mem_cons, List.not_mem_nil, or_false] at hx
    rcases hx with rfl | rfl | rfl
    · exact like_ints (n := n + 5) (by omega)
    · exact like_ints (n := n + 5) (by omega)
    · exact like_ints (n := n + 5) (by omega)
  refine ⟨some (false, .int (i : Int)), some (false, .str s.nm), some (false, .str s.kd), some (false, .tup s.ar), some (false, .lst ((srt F).map .int)), some (false, .lst ((sg S i).map .int)), some (b8, .lst ((bh S (srt F)).map .int)), t9, some (false, .lst ((wl s).map .str)), ?_⟩
  simp only [R] at e30 e31 e18 e20 e19 e25 e3
  have p0 : rT.put (.tup [.int (i : Int), stD s]) (envR S E s2 s3 s4 s5 s6 s7 s8 s9 s10 s11 s12) = some (envR S E (some (false, .int (i : Int))) (some (false, .str s.nm)) (some (false, .str s.kd)) (some (false, .tup s.ar)) s6 s7 s8 s9 s10 s11 s12) := by
    simp [Tg.put, Tg.puts, stD, envR]
  refine turn_of p0 ?_
  have q1 : evS wds NW_ (R (n + 9)) (.par [6, 7] [(.call 30 [(.v 0), (.v 2)]), (.call 31 [(.v 0), (.v 2)])]) (envR S E (some (false, .int (i : Int))) (some (false, .str s.nm)) (some (false, .str s.kd)) (some (false, .tup s.ar)) s6 s7 s8 s9 s10 s11 s12) u = .next (envR S E (some (false, .int (i : Int))) (some (false, .str s.nm)) (some (false, .str s.kd)) (some (false, .tup s.ar)) (some (false, .lst ((srt F).map .int))) (some (false, .lst ((sg S i).map .int))) s8 s9 s10 s11 s12) u := by
    simp [evS, evE, evL, Re.bind, e30, e31, Ex.fresh, D.flat, unowned, Ex.fv, Ex.fvs, setPar, envR]
  have q2 : evS wds NW_ (R (n + 9)) (.set 8 (.lst [])) (envR S E (some (false, .int (i : Int))) (some (false, .str s.nm)) (some (false, .str s.kd)) (some (false, .tup s.ar)) (some (false, .lst ((srt F).map .int))) (some (false, .lst ((sg S i).map .int))) s8 s9 s10 s11 s12) u = .next (envR S E (some (false, .int (i : Int))) (some (false, .str s.nm)) (some (false, .str s.kd)) (some (false, .tup s.ar)) (some (false, .lst ((srt F).map .int))) (some (false, .lst ((sg S i).map .int))) (some (true, .lst [])) s9 s10 s11 s12) u := by
    simp [evS, evE, evL, Re.bind, ofRe, after, Ex.fresh, D.ownable, D.isBox, D.its, D.flats, D.flat, big, envR]
  have q3 : evS wds NW_ (R (n + 9)) (.for_ (.n 9) (.v 6) bhB) (envR S E (some (false, .int (i : Int))) (some (false, .str s.nm)) (some (false, .str s.kd)) (some (false, .tup s.ar)) (some (false, .lst ((srt F).map .int))) (some (false, .lst ((sg S i).map .int))) (some (true, .lst [])) s9 s10 s11 s12) u = .next (envR S E (some (false, .int (i : Int))) (some (false, .str s.nm)) (some (false, .str s.kd)) (some (false, .tup s.ar)) (some (false, .lst ((srt F).map .int))) (some (false, .lst ((sg S i).map .int))) (some (b8, .lst ((bh S (srt F)).map .int))) t9 s10 s11 s12) u := by
    refine for_next (d := .lst ((srt F).map .int)) (u1 := u) ?_ rfl ?_ e3
    · simp [evE, envR]
    · simp [Ex.fz, Ex.fresh, Ex.fv, freeze, frz_some, frz_not, envR]
  have q4 : evS wds NW_ (R (n + 9)) (.ite (.not (.call 25 [(.lst [(.call 18 [(.v 0), (.v 3)]), (.call 20 [(.v 0), (.v 3)]), (.call 19 [(.v 0), (.v 3)])]), (.lst [(.bi .tuple [(.v 7)]), (.bi .tuple [(.v 6)]), (.bi .tuple [(.bi .sorted [(.v 8)])])])])) [(.ret (.c (.bl false)))] []) (envR S E (some (false, .int (i : Int))) (some (false, .str s.nm)) (some (false, .str s.kd)) (some (false, .tup s.ar)) (some (false, .lst ((srt F).map .int))) (some (false, .lst ((sg S i).map .int))) (some (b8, .lst ((bh S (srt F)).map .int))) t9 s10 s11 s12) u = .next (envR S E (some (false, .int (i : Int))) (some (false, .str s.nm)) (some (false, .str s.kd)) (some (false, .tup s.ar)) (some (false, .lst ((srt F).map .int))) (some (false, .lst ((sg S i).map .int))) (some (b8, .lst ((bh S (srt F)).map .int))) t9 s10 s11 s12) u := by
    simp [evS, evSs, evE, evL, Re.bind, ofRe, e18, e19, e20, envR, lift, biV, sortL_int, sb, big, e25]
  have l0 : (((sg S i).map D.int).length : Int) = num s := by rw [List.length_map, lsg]; omega
  have q5 : evS wds NW_ (R (n + 9)) w10 (envR S E (some (false, .int (i : Int))) (some (false, .str s.nm)) (some (false, .str s.kd)) (some (false, .tup s.ar)) (some (false, .lst ((srt F).map .int))) (some (false, .lst ((sg S i).map .int))) (some (b8, .lst ((bh S (srt F)).map .int))) t9 s10 s11 s12) u = .next (envR S E (some (false, .int (i : Int))) (some (false, .str s.nm)) (some (false, .str s.kd)) (some (false, .tup s.ar)) (some (false, .lst ((srt F).map .int))) (some (false, .lst ((sg S i).map .int))) (some (b8, .lst ((bh S (srt F)).map .int))) t9 (some (false, .lst ((wl s).map .str))) s11 s12) u := w10_ok l0 hp
  have q6 : evS wds NW_ (R (n + 9)) e01 (envR S E (some (false, .int (i : Int))) (some (false, .str s.nm)) (some (false, .str s.kd)) (some (false, .tup s.ar)) (some (false, .lst ((srt F).map .int))) (some (false, .lst ((sg S i).map .int))) (some (b8, .lst ((bh S (srt F)).map .int))) t9 (some (false, .lst ((wl s).map .str))) s11 s12) u = .next (envR S (E ++ (wl s).map (evD s)) (some (false, .int (i : Int))) (some (false, .str s.nm)) (some (false, .str s.kd)) (some (false, .tup s.ar)) (some (false, .lst ((srt F).map .int))) (some (false, .lst ((sg S i).map .int))) (some (b8, .lst ((bh S (srt F)).map .int))) t9 (some (false, .lst ((wl s).map .str))) s11 s12) u := e01_ok hE hl
  exact (evSs_next q1).trans ((evSs_next q2).trans ((evSs_next q3).trans ((evSs_next q4).trans ((evSs_next q5).trans (evSs_one q6)))))
theorem r_loop {S : List Stp} (h : Fig S) : ∀ {T A : List Stp} {s2 s3 s4 s5 s6 s7 s8 s9 s10 s11 s12 : Sl}, S = A ++ T →
    ∃ t2 t3 t4 t5 t6 t7 t8 t9 t10, forLoop (turnS wds NW_ (R (n + 9)) rT rB) (pairs A.length (T.map stD)) (envR S (evr A) s2 s3 s4 s5 s6 s7 s8 s9 s10 s11 s12) u = .next (envR S (evr S) t2 t3 t4 t5 t6 t7 t8 t9 t10 s11 s12) u
  | [], A, s2, s3, s4, s5, s6, s7, s8, s9, s10, s11, s12, hS => ⟨s2, s3, s4, s5, s6, s7, s8, s9, s10, by
    rw [List.append_nil] at hS
    rw [← hS]
    rfl⟩
  | s :: T, A, s2, s3, s4, s5, s6, s7, s8, s9, s10, s11, s12, hS => by
    have hs : S[A.length]? = some s := by rw [hS]; simp
    have le : (evr A).length ≤ 1000 := by
      have e := evr_len (S := A)
      have e2 := nums_le (S := S) (i := A.length)
      rw [show S.take A.length = A by rw [hS]; simp] at e2
      have := h.n8
      omega
    obtain ⟨a2, a3, a4, a5, a6, a7, a8, a9, a10, e⟩ := r_turn (n := n) (u := u) h hs (E := evr A) evr_flat le (s2 := s2) (s3 := s3) (s4 := s4) (s5 := s5) (s6 := s6) (s7 := s7) (s8 := s8) (s9 := s9) (s10 := s10) (s11 := s11) (s12 := s12)
    obtain ⟨b2, b3, b4, b5, b6, b7, b8, b9, b10, e2⟩ := r_loop h (T := T) (A := A ++ [s]) (s2 := a2) (s3 := a3) (s4 := a4) (s5 := a5) (s6 := a6) (s7 := a7) (s8 := a8) (s9 := a9) (s10 := a10) (s11 := s11) (s12 := s12) (by rw [hS]; simp)
    refine ⟨b2, b3, b4, b5, b6, b7, b8, b9, b10, ?_⟩
    have ea : evr (A ++ [s]) = evr A ++ (wl s).map (evD s) := by rw [evr_app]; simp [evr]
    rw [ea, List.length_append] at e2
    rw [List.map_cons, pairs, forLoop, e]
    exact e2
abbrev zB : List Sx := match d_law_right.body.getD 2 .pass with
  | .for_ _ _ b => b
  | _ => []
abbrev zT : Tg := .t [.n 11, .n 12]
theorem so_t : SO "t" := by decide +kernel
theorem so_x : SO "x" := by decide +kernel
theorem so_y : SO "y" := by decide +kernel
theorem so_wd {s : Stp} {k : Nat} : SO (wdS s k) := by
  unfold wdS
  split
  · exact so_t
  · split
    · exact so_x
    · exact so_y
theorem like_ev {s : Stp} (hn : SO s.nm) {k : Nat} : R (n + 3) 25 [evD s (wdS s k), evD s (wdS s k)] u = .ok (.bl true) u :=
  like_tup (by simp) fun x hx u => by
    simp only [List.mem_cons, List.not_mem_nil, or_false] at hx
    rcases hx with rfl | rfl
    · exact like_str hn
    · exact like_str so_wd
/-- the frame behind the first loop, the list of all signs held fast -/
def envZ (S : List Stp) (E : List D) (s2 s3 s4 s5 s6 s7 s8 s9 s10 s11 s12 : Sl) : En := [some (false, fgD S), some (false, .lst E), s2, s3, s4, s5, s6, s7, s8, s9, s10, s11, s12, none]
theorem z_turn {S : List Stp} (h : Fig S) {m : Nat} (hm : m < (evr S).length) {s2 s3 s4 s5 s6 s7 s8 s9 s10 s11 s12 : Sl} :
    ∃ t12, turnS wds NW_ (R (n + 8)) zT zB (.tup [.int (m : Int), (evr S)[m]]) (envZ S (evr S) s2 s3 s4 s5 s6 s7 s8 s9 s10 s11 s12) u = .next (envZ S (evr S) s2 s3 s4 s5 s6 s7 s8 s9 s10 (some (false, .int (m : Int))) t12) u := by
  obtain ⟨A, s, B, k, e1, e2, e3, e4⟩ := evr_at hm
  rw [List.getElem?_eq_getElem hm] at e4
  have e4 := Option.some.inj e4
  rw [e4]
  have hn : SO s.nm := so_QW (h.qw _ (by rw [e1]; simp [nms]))
  have c21 : R (n + 8) 21 [fgD S, .int (m : Int)] u = .ok (evD s (wdS s k)) u := by
    rw [e3]
    exact sos_ok h e1 e2
  have c25 : R (n + 8) 25 [evD s (wdS s k), evD s (wdS s k)] u = .ok (.bl true) u := like_ev (n := n + 5) hn
  simp only [R] at c21 c25
  refine ⟨some (false, evD s (wdS s k)), turn_of (e1 := envZ S (evr S) s2 s3 s4 s5 s6 s7 s8 s9 s10 (some (false, .int (m : Int))) (some (false, evD s (wdS s k)))) ?_ ?_⟩
  · simp [Tg.put, Tg.puts, envZ]
  · simp [zB, d_law_right, evSs, evS, evE, evL, Re.bind, ofRe, c21, c25, envZ]
theorem z_loop {S : List Stp} (h : Fig S) : ∀ {m : Nat} {xs : List D} {s2 s3 s4 s5 s6 s7 s8 s9 s10 s11 s12 : Sl}, xs = (evr S).drop m →
    ∃ t11 t12, forLoop (turnS wds NW_ (R (n + 8)) zT zB) (pairs m xs) (envZ S (evr S) s2 s3 s4 s5 s6 s7 s8 s9 s10 s11 s12) u = .next (envZ S (evr S) s2 s3 s4 s5 s6 s7 s8 s9 s10 t11 t12) u
  | m, [], s2, s3, s4, s5, s6, s7, s8, s9, s10, s11, s12, _ => ⟨s11, s12, rfl⟩
  | m, x :: xs, s2, s3, s4, s5, s6, s7, s8, s9, s10, s11, s12, hx => by
    have hm : m < (evr S).length := by
      have := congrArg List.length hx
      rw [List.length_drop, List.length_cons] at this
      omega
    rw [List.drop_eq_getElem_cons hm] at hx
    injection hx with hx1 hx2
    obtain ⟨t12, e⟩ := z_turn (n := n) (u := u) h hm (s2 := s2) (s3 := s3) (s4 := s4) (s5 := s5) (s6 := s6) (s7 := s7) (s8 := s8) (s9 := s9) (s10 := s10) (s11 := s11) (s12 := s12)
    obtain ⟨a, b, e2⟩ := z_loop h (m := m + 1) (xs := xs) (s2 := s2) (s3 := s3) (s4 := s4) (s5 := s5) (s6 := s6) (s7 := s7) (s8 := s8) (s9 := s9) (s10 := s10) (s11 := some (false, .int (m : Int))) (s12 := t12) hx2
    refine ⟨a, b, ?_⟩
    rw [pairs, forLoop, hx1, e]
    exact e2
theorem right_ok {S : List Stp} (h : Fig S) : R (n + 10) 34 [fgD S] u = .ok (.bl true) u := by
  obtain ⟨t2, t3, t4, t5, t6, t7, t8, t9, t10, e1⟩ := r_loop (n := n) (u := u) h (T := S) (A := []) (s2 := none) (s3 := none) (s4 := none) (s5 := none) (s6 := none) (s7 := none) (s8 := none) (s9 := none) (s10 := none) (s11 := none) (s12 := none) rfl
  obtain ⟨t11, t12, e2⟩ := z_loop (n := n + 1) (u := u) h (m := 0) (xs := evr S) (s2 := t2) (s3 := t3) (s4 := t4) (s5 := t5) (s6 := t6) (s7 := t7) (s8 := t8) (s9 := t9) (s10 := t10) (s11 := none) (s12 := none) rfl
  have q0 : evS wds NW_ (R (n + 9)) (.set 1 (.lst [])) (Ev.start [fgD S] 14) u = .next (envR S (evr []) none none none none none none none none none none none) u := by
    simp [evS, evE, evL, Re.bind, ofRe, after, Ex.fresh, D.ownable, D.isBox, D.its, D.flats, D.flat, big, envR, Ev.start, evr]
  have q1 : evS wds NW_ (R (n + 9)) (.for_ rT (.enu (.v 0)) rB) (envR S (evr []) none none none none none none none none none none none) u = .next (envR S (evr S) t2 t3 t4 t5 t6 t7 t8 t9 t10 none none) u := by
    refine for_next (d := .lst (pairs 0 (S.map stD))) (u1 := u) ?_ rfl ?_ e1
    · simp [evE, envR, Re.bind, lift, enuV, fgD]
    · simp [Ex.fz, Ex.fresh, Ex.fv, freeze, frz_some, frz_not, envR, evr]
  have q2 : evS wds NW_ (R (n + 9)) (.for_ zT (.enu (.v 1)) zB) (envR S (evr S) t2 t3 t4 t5 t6 t7 t8 t9 t10 none none) u = .next (envZ S (evr S) t2 t3 t4 t5 t6 t7 t8 t9 t10 t11 t12) u := by
    refine for_next (d := .lst (pairs 0 (evr S))) (u1 := u) ?_ rfl ?_ e2
    · simp [evE, envR, Re.bind, lift, enuV]
    · simp [Ex.fz, Ex.fresh, Ex.fv, freeze, frz_some, frz_not, envR, envZ]
  have c21 : R (n + 9) 21 [fgD S, .int (nums S)] u = .exc 1 u := sos_no (n := n + 1) h
  have so_n : SO "number" := by decide +kernel
  have w1 : wds 1 = some ("number" : Str) := rfl
  have q3 : evS wds NW_ (R (n + 9)) (.ret (.cmp .Eq (.err (.call 21 [(.v 0), (.bi .len [(.v 1)])])) (.c (.str (PySem.Str.ofString "number"))))) (envZ S (evr S) t2 t3 t4 t5 t6 t7 t8 t9 t10 t11 t12) u = .ret (.bl true) u := by
    simp only [R] at c21
    have ln := evr_len (S := S)
    simp [evS, evE, evL, Re.bind, ofRe, lift, biV, envZ, ln, c21, w1, eq_S so_n so_n]
  exact run_ret d_law_right rfl rfl ((evSs_next q0).trans ((evSs_next q1).trans ((evSs_next q2).trans (evSs_ret q3))))
end
end K09

/-! k09, the plain law: bounds of degrees, random orders. -/
namespace K09
open Ev PySem
section
variable {n : Nat} {u : Cup}
/-! ### integers in a random order -/
abbrev tuB : List Sx := match d_law_turned.body.getD 1 .pass with
  | .for_ _ _ b => b
  | _ => []
theorem tu_turn {m : Int} {L G : List Int} {b : Bool} {s4 s5 : Sl} {x : D} (h0 : 0 < L.length) (h1 : L.length < 1000) (hG : G.length < 1000) (nd : L.Nodup) :
    ∃ y u' , y ∈ L ∧ turnS wds NW_ (R (n + 1)) (.n 4) tuB x [some (false, .cup), some (false, .int m), some (b, .lst (L.map .int)), some (true, .lst (G.map .int)), s4, s5, none] u = .next [some (false, .cup), some (false, .int m), some (true, .lst ((L.filter fun z => decide (z ≠ y)).map .int)), some (true, .lst ((G ++ [y]).map .int)), some (false, x), some (false, .int y), none] u' := by
  obtain ⟨z, u1, e, z0, z1⟩ := roll_sm (n := n) (m := (L.length : Int)) (u := u) (by omega) (by omega)
  obtain ⟨k, rfl⟩ := Int.eq_ofNat_of_zero_le z0
  have hk : k < L.length := by omega
  refine ⟨L[k], u1, List.getElem_mem hk, ?_⟩
  have ix : ∀ u : Cup, ixR (.lst (L.map .int)) (.int (k : Int)) u = .ok (.int L[k]) u := fun u => by
    show lift (ixV (.lst (L.map .int)) (.int (k : Int))) u = _
    simp [ixV, atI_nat, hk, lift]
  simp only [R] at e
  have lG : G.length < 16777216 := by omega
  have lL : L.length ≤ 16777216 := by omega
  refine turn_of (e1 := [some (false, .cup), some (false, .int m), some (b, .lst (L.map .int)), some (true, .lst (G.map .int)), some (false, x), s5, none]) (by simp [Tg.put]) ?_
  have q1 : evS wds NW_ (R (n + 1)) (.set 5 (.ix (.v 2) (.call 22 [(.v 0), (.bi .len [(.v 2)])]))) [some (false, .cup), some (false, .int m), some (b, .lst (L.map .int)), some (true, .lst (G.map .int)), some (false, x), s5, none] u = .next [some (false, .cup), some (false, .int m), some (b, .lst (L.map .int)), some (true, .lst (G.map .int)), some (false, x), some (false, .int L[k]), none] u1 := by
    simp [evS, evE, evL, Re.bind, ofRe, lift, biV, e, ix, after, D.flat, Ex.fresh]
  have q2 : evS wds NW_ (R (n + 1)) (.app 3 (.v 5)) [some (false, .cup), some (false, .int m), some (b, .lst (L.map .int)), some (true, .lst (G.map .int)), some (false, x), some (false, .int L[k]), none] u1 = .next [some (false, .cup), some (false, .int m), some (b, .lst (L.map .int)), some (true, .lst ((G ++ [L[k]]).map .int)), some (false, x), some (false, .int L[k]), none] u1 := by
    simp [evS, evE, ofRe, D.flat, big, lG]
  have q3 : evS wds NW_ (R (n + 1)) (.set 2 (.lc [6] (.n 6) (.v 2) [(.cmp .NotEq (.v 6) (.v 5))] (.v 6))) [some (false, .cup), some (false, .int m), some (b, .lst (L.map .int)), some (true, .lst ((G ++ [L[k]]).map .int)), some (false, x), some (false, .int L[k]), none] u1 = .next [some (false, .cup), some (false, .int m), some (true, .lst ((L.filter fun z => decide (z ≠ L[k])).map .int)), some (true, .lst ((G ++ [L[k]]).map .int)), some (false, x), some (false, .int L[k]), none] u1 := by
    have v : evE wds NW_ (R (n + 1)) (.lc [6] (.n 6) (.v 2) [(.cmp .NotEq (.v 6) (.v 5))] (.v 6)) [some (false, .cup), some (false, .int m), some (b, .lst (L.map .int)), some (true, .lst ((G ++ [L[k]]).map .int)), some (false, x), some (false, .int L[k]), none] u1 = .ok (.lst ((L.filter fun z => decide (z ≠ L[k])).map .int)) u1 := by
      simp only [evE, Re.bind, List.getElem?_cons_succ, List.getElem?_cons_zero, D.items]
      rw [lc_filterG (p := fun z => decide (z ≠ L[k])) (g := D.int) fun a ha => ?_]
      · simp [noExc, big, lL]
      · by_cases q : a = L[k]
        · simp [Tg.put, wipeE, evB, evE, Re.bind, lift, ne_I, q]
        · have qb : (a == L[k]) = false := by simpa using q
          simp [Tg.put, wipeE, evB, evE, Re.bind, lift, ne_I, q, qb]
    exact (set_fresh v rfl own_int).trans rfl
  exact (evSs_next q1).trans ((evSs_next q2).trans (evSs_one q3))
theorem filt_len {L : List Int} {y : Int} (nd : L.Nodup) (hy : y ∈ L) : (L.filter fun z => decide (z ≠ y)).length + 1 = L.length := by
  induction L with
  | nil => cases hy
  | cons a L ih =>
    rw [List.nodup_cons] at nd
    by_cases q : a = y
    · subst q
      have e : L.filter (fun z => decide (z ≠ a)) = L := List.filter_eq_self.mpr fun z hz => by
        simp
        exact fun e => nd.1 (e ▸ hz)
      rw [List.filter_cons, e]
      simp
    · have hy' : y ∈ L := by
        rcases List.mem_cons.mp hy with rfl | h
        · exact absurd rfl q
        · exact h
      have z := ih nd.2 hy'
      rw [List.filter_cons, if_pos (by simpa using q), List.length_cons, List.length_cons]
      omega
theorem tu_loop {m : Int} : ∀ {xs : List D} {u : Cup} {L G : List Int} {b : Bool} {s4 s5 : Sl}, L.length = xs.length → L.length < 1000 → G.length + L.length < 1000 → L.Nodup → (∀ z ∈ L, 0 ≤ z ∧ z < m) → (∀ z ∈ G, 0 ≤ z ∧ z < m) →
    ∃ (G' : List Int) (b' : Bool) (t2 t4 t5 : Sl) (u' : Cup), forLoop (turnS wds NW_ (R (n + 1)) (.n 4) tuB) xs [some (false, .cup), some (false, .int m), some (b, .lst (L.map .int)), some (true, .lst (G.map .int)), s4, s5, none] u = .next [some (false, .cup), some (false, .int m), t2, some (b', .lst (G'.map .int)), t4, t5, none] u' ∧ G'.length = G.length + xs.length ∧ ∀ z ∈ G', 0 ≤ z ∧ z < m
  | [], u, L, G, b, s4, s5, _, _, _, _, _, hG => ⟨G, true, _, s4, s5, u, rfl, by simp, hG⟩
  | x :: xs, u, L, G, b, s4, s5, hl, h1, h2, nd, hL, hG => by
    rw [List.length_cons] at hl
    obtain ⟨y, u1, hy, e⟩ := tu_turn (n := n) (u := u) (m := m) (L := L) (G := G) (b := b) (s4 := s4) (s5 := s5) (x := x) (by omega) h1 (by omega) nd
    have fl := filt_len nd hy
    obtain ⟨G', b', t2, t4, t5, u', e2, l2, g2⟩ := tu_loop (xs := xs) (u := u1) (L := L.filter fun z => decide (z ≠ y)) (G := G ++ [y]) (b := true) (s4 := some (false, x)) (s5 := some (false, .int y)) (by omega) (by omega) (by rw [List.length_append, List.length_singleton]; omega) (nd.filter _) (fun z hz => hL z (List.mem_filter.mp hz).1) (fun z hz => by
      rcases List.mem_append.mp hz with q | q
      · exact hG z q
      · rw [List.mem_singleton.mp q]
        exact hL y hy)
    refine ⟨G', b', t2, t4, t5, u', ?_, by rw [l2]; simp; omega, g2⟩
    rw [forLoop, e]
    exact e2
theorem turned_ok {m : Nat} (hm : m < 500) : ∃ (G : List Int) (u' : Cup), R (n + 2) 29 [.cup, .int (m : Int)] u = .ok (.lst (G.map .int)) u' ∧ G.length = m ∧ ∀ z ∈ G, 0 ≤ z ∧ z < (m : Int) := by
  have nd : ((List.range m).map Int.ofNat).Nodup := by
    rw [List.Nodup, List.pairwise_map]
    exact List.nodup_range.imp fun h e => h (Int.ofNat.inj e)
  obtain ⟨G, b', t2, t4, t5, u', e, l, g⟩ := tu_loop (n := n) (m := (m : Int)) (xs := range (m : Int)) (u := u) (L := (List.range m).map Int.ofNat) (G := []) (b := true) (s4 := none) (s5 := none) (by simp [range]) (by simp; omega) (by simp; omega) nd (fun z hz => by
    obtain ⟨k, hk, rfl⟩ := List.mem_map.mp hz
    rw [List.mem_range] at hk
    exact ⟨by simp, by simpa using hk⟩) (fun z hz => by cases hz)
  refine ⟨G, u', ?_, by rw [l]; simp [range], g⟩
  have sm : (smallI 0 && smallI (m : Int)) = true := by
    simp [smallI]
    omega
  have r2 : range2 0 (m : Int) = ((List.range m).map Int.ofNat).map .int := by
    unfold range2
    simp [Function.comp_def]
  have q1 : evS wds NW_ (R (n + 1)) (.par [2, 3] [(.lrg (.c (.int 0)) (.v 1)), (.lst [])]) (Ev.start [.cup, .int (m : Int)] 7) u = .next [some (false, .cup), some (false, .int (m : Int)), some (true, .lst (((List.range m).map Int.ofNat).map .int)), some (true, .lst []), none, none, none] u := by
    have fl : D.flats (((List.range m).map Int.ofNat).map .int) = true := flats_int
    have v : lrgV (.int 0) (.int (m : Int)) = some (.lst (((List.range m).map Int.ofNat).map .int)) := by
      simp only [lrgV]
      rw [if_pos sm, r2]
    have e0 : evE wds NW_ (R (n + 1)) (.lrg (.c (.int 0)) (.v 1)) (Ev.start [.cup, .int (m : Int)] 7) u = .ok (.lst (((List.range m).map Int.ofNat).map .int)) u := by
      simp only [evE, Re.bind, Ev.start, List.map_cons, List.map_nil, List.cons_append, List.nil_append, List.getElem?_cons_zero, List.getElem?_cons_succ, v, lift]
    have e1 : evE wds NW_ (R (n + 1)) (.lst []) (Ev.start [.cup, .int (m : Int)] 7) u = .ok (.lst []) u := by simp [evE, evL, Re.bind, big]
    have on : D.ownable (.lst []) = true := rfl
    have oi : D.ownable (.lst (((List.range m).map Int.ofNat).map .int)) = true := own_int
    refine (par_of (evL_two e0 e1) ?_).trans ?_
    · simp only [List.zip_cons_cons, List.zip_nil_right, List.all_cons, List.all_nil, Ex.fresh, oi, on]
      rfl
    · simp only [setPar, Ex.fresh, oi, on]
      rfl
  have q2 : evS wds NW_ (R (n + 1)) (.for_ (.n 4) (.rng (.v 1)) tuB) [some (false, .cup), some (false, .int (m : Int)), some (true, .lst (((List.range m).map Int.ofNat).map .int)), some (true, .lst []), none, none, none] u = .next [some (false, .cup), some (false, .int (m : Int)), t2, some (b', .lst (G.map .int)), t4, t5, none] u' := by
    refine for_next (d := .lst (range (m : Int))) (u1 := u) ?_ rfl ?_ e
    · exact rng_ok (by simp [evE]) (by omega) (by omega)
    · simp [Ex.fz, Ex.fresh, Ex.fv, freeze, frz_some, frz_not]
  have q3 : evS wds NW_ (R (n + 1)) (.ret (.v 3)) [some (false, .cup), some (false, .int (m : Int)), t2, some (b', .lst (G.map .int)), t4, t5, none] u' = .ret (.lst (G.map .int)) u' := by
    simp [evS, evE, ofRe]
  exact run_ret d_law_turned rfl rfl ((evSs_next q1).trans ((evSs_next q2).trans (evSs_ret q3)))
end
end K09

/-! k09, the plain law: the law's bounds of degrees. -/
namespace K09
open Ev PySem
/-- how often the degrees of each point count -/
def oft (s : Stp) : List Int := if s.kd = "foot" then [1, 3, 2] else if s.kd = "mirror" then [1, 3, 2] else if s.kd = "second" then [3, 2, 1] else if s.kd = "rings" then [3, 2, 1] else if s.kd = "round" then [3, 2, 2] else [1, 1, 1, 1]
def oftK : List L2.Key := [.inr "foot", .inr "mirror", .inr "second", .inr "rings", .inr "round"]
def oftV : List D := [.tup [.int 1, .int 3, .int 2], .tup [.int 1, .int 3, .int 2], .tup [.int 3, .int 2, .int 1], .tup [.int 3, .int 2, .int 1], .tup [.int 3, .int 2, .int 2]]
theorem oft_get (s : Stp) : (lkK oftK oftV (.inr s.kd)).getD (.tup [.int 1, .int 1, .int 1, .int 1]) = .tup ((oft s).map .int) := by
  unfold oft oftK oftV
  have ne : ∀ x : Str, ((Sum.inr x : L2.Key) = Sum.inr s.kd) ↔ s.kd = x := fun x => ⟨fun h => (Sum.inr.inj h).symm, fun h => by rw [h]⟩
  simp only [lkK, ne]
  split
  · rfl
  · split
    · rfl
    · split
      · rfl
      · split
        · rfl
        · split <;> rfl
theorem oft_mem {s : Stp} : ∀ m ∈ oft s, 0 ≤ m ∧ m ≤ 3 := by
  unfold oft
  repeat' split
  all_goals decide
theorem oft_len {s : Stp} : (oft s).length ≤ 4 := by
  unfold oft
  repeat' split
  all_goals decide
/-- eight bounds, none above b -/
structure Row (b : Int) (r : List Int) : Prop where
  l8 : r.length = 8
  le : ∀ x ∈ r, 0 ≤ x ∧ x ≤ b
section
variable {n : Nat} {u : Cup}
abbrev boB : List Sx := match d_law_bounds.body.getD 1 .pass with
  | .for_ _ _ b => b
  | _ => []
abbrev soB : List Sx := match boB.getD 2 .pass with
  | .for_ _ _ b => b
  | _ => []
abbrev aoB : List Sx := match boB.getD 3 .pass with
  | .for_ _ _ b => b
  | _ => []
def rowD (r : List Int) : D := .tup (r.map .int)
def envG (v found places s3 s4 s5 s6 s7 s8 s9 s10 s11 s12 : Sl) : En := [v, found, places, s3, s4, s5, s6, s7, s8, s9, s10, s11, s12, none, none]
/-- own signs -/
theorem so_loop {v f p s4 s5 s7 s8 s11 s12 : Sl} {kd : Str} (hk : SO kd) : ∀ {xs : List D} {g : Int} {r : List Int} {s10 : Sl}, 0 ≤ g → g + xs.length ≤ 8 → Row 2 r →
    ∃ r' t10, forLoop (turnS wds NW_ (R n) (.n 10) soB) xs (envG v f p (some (false, .int g)) s4 s5 (some (false, .str kd)) s7 s8 (some (true, .lst (r.map .int))) s10 s11 s12) u = .next (envG v f p (some (false, .int (g + xs.length))) s4 s5 (some (false, .str kd)) s7 s8 (some (true, .lst (r'.map .int))) t10 s11 s12) u ∧ Row 2 r'
  | [], g, r, s10, _, _, h => ⟨r, s10, by simp [forLoop], h⟩
  | x :: xs, g, r, s10, g0, g8, h => by
    rw [List.length_cons] at g8
    obtain ⟨k, rfl⟩ := Int.eq_ofNat_of_zero_le g0
    have so_r : SO "on ring" := by decide +kernel
    have hk8 : k < 8 := by omega
    let y : Int := if kd = "on ring" then 2 else 1
    have hy : 0 ≤ y ∧ y ≤ 2 := by
      show 0 ≤ (if kd = "on ring" then (2 : Int) else 1) ∧ (if kd = "on ring" then (2 : Int) else 1) ≤ 2
      split <;> decide
    have row : Row 2 (r.set k y) := ⟨by rw [List.length_set]; exact h.l8, fun z hz => by
      rcases List.mem_or_eq_of_mem_set hz with q | q
      · exact h.le z q
      · rw [q]
        exact hy⟩
    obtain ⟨r', t10, e, row'⟩ := so_loop hk (v := v) (f := f) (p := p) (s4 := s4) (s5 := s5) (s7 := s7) (s8 := s8) (s11 := s11) (s12 := s12) (xs := xs) (g := (k : Int) + 1) (r := r.set k y) (s10 := some (false, x)) (by omega) (by omega) row
    refine ⟨r', t10, ?_, row'⟩
    have hl : (r.map D.int).length = 8 := by rw [List.length_map, h.l8]
    have ix : L2.ixN (r.map D.int).length (k : Int) = some k := by
      rw [hl]
      simp [L2.ixN]
      omega
    have yv : ∀ env : En, evE wds NW_ (R n) (.ite (.cmp .Eq (.v 6) (.c (.str (PySem.Str.ofString "on ring")))) (.c (.int 2)) (.c (.int 1))) (envG v f p (some (false, .int (k : Int))) s4 s5 (some (false, .str kd)) s7 s8 (some (true, .lst (r.map .int))) (some (false, x)) s11 s12) u = .ok (.int y) u := fun _ => by
      show _ = Re.ok (D.int (if kd = "on ring" then (2 : Int) else 1)) u
      by_cases q : kd = "on ring"
      · simp [evE, Re.bind, lift, envG, q, eq_S so_r so_r]
      · simp [evE, Re.bind, lift, envG, q, eq_S hk so_r]
    have q1 : evS wds NW_ (R n) (.sub 9 (.v 3) (.ite (.cmp .Eq (.v 6) (.c (.str (PySem.Str.ofString "on ring")))) (.c (.int 2)) (.c (.int 1)))) (envG v f p (some (false, .int (k : Int))) s4 s5 (some (false, .str kd)) s7 s8 (some (true, .lst (r.map .int))) (some (false, x)) s11 s12) u = .next (envG v f p (some (false, .int (k : Int))) s4 s5 (some (false, .str kd)) s7 s8 (some (true, .lst ((r.set k y).map .int))) (some (false, x)) s11 s12) u := by
      have g9 : (envG v f p (some (false, .int (k : Int))) s4 s5 (some (false, .str kd)) s7 s8 (some (true, .lst (r.map .int))) (some (false, x)) s11 s12)[9]? = some (some (true, .lst (r.map .int))) := rfl
      rw [evS, g9]
      simp only []
      rw [yv []]
      have v3 : evE wds NW_ (R n) (.v 3) (envG v f p (some (false, .int (k : Int))) s4 s5 (some (false, .str kd)) s7 s8 (some (true, .lst (r.map .int))) (some (false, x)) s11 s12) u = .ok (.int (k : Int)) u := by simp [evE, envG]
      simp only [ofRe, v3, ix, D.flat, if_true]
      simp [envG, List.map_set]
    have q2 : evS wds NW_ (R n) (.set 3 (.bin .Add (.v 3) (.c (.int 1)))) (envG v f p (some (false, .int (k : Int))) s4 s5 (some (false, .str kd)) s7 s8 (some (true, .lst ((r.set k y).map .int))) (some (false, x)) s11 s12) u = .next (envG v f p (some (false, .int ((k : Int) + 1))) s4 s5 (some (false, .str kd)) s7 s8 (some (true, .lst ((r.set k y).map .int))) (some (false, x)) s11 s12) u := by
      simp [evS, evE, Re.bind, ofRe, lift, addI, after, D.flat, envG, D.ownable, D.isBox]
    have t : turnS wds NW_ (R n) (.n 10) soB x (envG v f p (some (false, .int (k : Int))) s4 s5 (some (false, .str kd)) s7 s8 (some (true, .lst (r.map .int))) s10 s11 s12) u = .next (envG v f p (some (false, .int ((k : Int) + 1))) s4 s5 (some (false, .str kd)) s7 s8 (some (true, .lst ((r.set k y).map .int))) (some (false, x)) s11 s12) u :=
      turn_of (by simp [Tg.put, envG]) ((evSs_next q1).trans (evSs_one q2))
    rw [forLoop, t]
    refine e.trans ?_
    rw [List.length_cons, show ((k : Int) + 1 + (xs.length : Int)) = (k : Int) + ((xs.length + 1 : Nat) : Int) by omega]
/-- the row of an earlier point, so often -/
theorem ao_row {b c m : Int} {r q : List Int} (hr : Row b r) (hq : Row c q) (m0 : 0 ≤ m) (m3 : m ≤ 3) : Row (b + m * c) ((r.zip q).map fun z => z.1 + m * z.2) := by
  refine ⟨by simp [hr.l8, hq.l8], fun x hx => ?_⟩
  obtain ⟨⟨a, d⟩, hz, rfl⟩ := List.mem_map.mp hx
  obtain ⟨h1, h2⟩ := List.of_mem_zip hz
  obtain ⟨a0, a1⟩ := hr.le a h1
  obtain ⟨d0, d1⟩ := hq.le d h2
  have k0 := Int.mul_nonneg m0 d0
  have k1 := Int.mul_le_mul_of_nonneg_left d1 m0
  exact ⟨by show 0 ≤ a + m * d; omega, by show a + m * d ≤ b + m * c; omega⟩
theorem so_ao {S : List Stp} {T : List Stp} {a : Str} (ha : a ∈ nms T) (nd : (nms T).Nodup) {vs : List D} (hl : (nms T).length = vs.length) : lkK ((nms T).map Sum.inr) vs (.inr a) = vs[pos T a]? := lkK_inr nd hl (pos_get ha)
/-- the sum of the bounds of what is asked for -/
def wsum (T : List Stp) (β : Nat → Int) : List (Str × Int) → Int
  | [] => 0
  | (a, m) :: r => m * β (pos T a) + wsum T β r
theorem ao_loop {T : List Stp} (nd : (nms T).Nodup) {bs : List (List Int)} (hb : bs.length = T.length) {β : Nat → Int} (hβ : ∀ i (h : i < bs.length), Row (β i) bs[i] ∧ β i < 1000000000000000000) {v s3 s4 s5 s6 s7 s8 s10 : Sl} {bf bp : Bool} :
    ∀ {l : List (Str × Int)} {b : Int} {r : List Int} {s11 s12 : Sl}, (∀ q ∈ l, q.1 ∈ nms T ∧ 0 ≤ q.2 ∧ q.2 ≤ 3) → Row b r →
    ∃ r' t11 t12, forLoop (turnS wds NW_ (R n) (.t [.n 11, .n 12]) aoB) (l.map fun q => .tup [.str q.1, .int q.2]) (envG v (some (bf, .lst (bs.map rowD))) (some (bp, .dic ((nms T).map .inr) (plV T))) s3 s4 s5 s6 s7 s8 (some (true, .lst (r.map .int))) s10 s11 s12) u = .next (envG v (some (bf, .lst (bs.map rowD))) (some (bp, .dic ((nms T).map .inr) (plV T))) s3 s4 s5 s6 s7 s8 (some (true, .lst (r'.map .int))) s10 t11 t12) u ∧ Row (b + wsum T β l) r'
  | [], b, r, s11, s12, _, h => ⟨r, s11, s12, by simp [forLoop], by simpa [wsum] using h⟩
  | (a, m) :: l, b, r, s11, s12, hl, h => by
    obtain ⟨ha, m0, m3⟩ := hl (a, m) List.mem_cons_self
    have hp : pos T a < bs.length := by rw [hb]; exact pos_len ha
    obtain ⟨rq, bq⟩ := hβ (pos T a) hp
    have row := ao_row h rq m0 m3
    obtain ⟨r', t11, t12, e, row'⟩ := ao_loop nd hb hβ (v := v) (s3 := s3) (s4 := s4) (s5 := s5) (s6 := s6) (s7 := s7) (s8 := s8) (s10 := s10) (bf := bf) (bp := bp) (l := l) (s11 := some (false, .str a)) (s12 := some (false, .int m)) (fun q hq => hl q (List.mem_cons_of_mem _ hq)) row
    refine ⟨r', t11, t12, ?_, by rw [wsum, ← Int.add_assoc]; exact row'⟩
    have i1 : ixR (.dic ((nms T).map .inr) (plV T)) (.str a) u = .ok (.int (pos T a : Int)) u := by
      show lift (ixV _ _) u = _
      simp only [ixV, D.key]
      rw [so_ao (S := T) ha nd (by simp [nms, plV])]
      have hl2 : pos T a < T.length := pos_len ha
      simp [plV, List.getElem?_zipIdx, List.getElem?_eq_getElem hl2, lift]
    have i2 : ixR (.lst (bs.map rowD)) (.int (pos T a : Int)) u = .ok (rowD bs[pos T a]) u := by
      show lift (ixV _ _) u = _
      simp [ixV, atI_nat, hp, lift]
    have cv : evE wds NW_ (R n) (.lc [13, 14] (.t [(.n 13), (.n 14)]) (.zip (.v 9) (.ix (.v 1) (.ix (.v 2) (.v 11)))) [] (.bin .Add (.v 13) (.bin .Mult (.v 12) (.v 14)))) (envG v (some (bf, .lst (bs.map rowD))) (some (bp, .dic ((nms T).map .inr) (plV T))) s3 s4 s5 s6 s7 s8 (some (true, .lst (r.map .int))) s10 (some (false, .str a)) (some (false, .int m))) u = .ok (.lst (((r.zip bs[pos T a]).map fun z => z.1 + m * z.2).map .int)) u := by
      have src : evE wds NW_ (R n) (.zip (.v 9) (.ix (.v 1) (.ix (.v 2) (.v 11)))) (envG v (some (bf, .lst (bs.map rowD))) (some (bp, .dic ((nms T).map .inr) (plV T))) s3 s4 s5 s6 s7 s8 (some (true, .lst (r.map .int))) s10 (some (false, .str a)) (some (false, .int m))) u = .ok (.lst ((r.zip bs[pos T a]).map fun z => .tup [.int z.1, .int z.2])) u := by
        have z : ((r.map D.int).zip (bs[pos T a].map D.int)).map (fun p => D.tup [p.1, p.2]) = (r.zip bs[pos T a]).map fun z => .tup [.int z.1, .int z.2] := by
          rw [List.zip_map, List.map_map]
          rfl
        simp [evE, Re.bind, envG, i1, i2, rowD, z]
      rw [evE, src]
      simp only [Re.bind, D.items]
      rw [lc_mapG (g := fun z : Int × Int => .int (z.1 + m * z.2)) fun z hz => ?_]
      · have l8 : ((r.zip bs[pos T a]).map fun z => D.tup [.int z.1, .int z.2]).length ≤ big := by
          simp [h.l8, rq.l8, big]
        simp only [noExc]
        rw [if_pos l8, List.map_map]
        rfl
      · obtain ⟨z1, z2⟩ := List.of_mem_zip hz
        have hz2 := rq.le _ z2
        have ml : binV .Mult (.int m) (.int z.2) = some (.int (m * z.2)) := mulI (by omega)
        simp [Tg.put, Tg.puts, wipeE, evB, evE, Re.bind, lift, addI, ml, envG]
    have q1 : evS wds NW_ (R n) (.set 9 (.lc [13, 14] (.t [(.n 13), (.n 14)]) (.zip (.v 9) (.ix (.v 1) (.ix (.v 2) (.v 11)))) [] (.bin .Add (.v 13) (.bin .Mult (.v 12) (.v 14))))) (envG v (some (bf, .lst (bs.map rowD))) (some (bp, .dic ((nms T).map .inr) (plV T))) s3 s4 s5 s6 s7 s8 (some (true, .lst (r.map .int))) s10 (some (false, .str a)) (some (false, .int m))) u = .next (envG v (some (bf, .lst (bs.map rowD))) (some (bp, .dic ((nms T).map .inr) (plV T))) s3 s4 s5 s6 s7 s8 (some (true, .lst (((r.zip bs[pos T a]).map fun z => z.1 + m * z.2).map .int))) s10 (some (false, .str a)) (some (false, .int m))) u :=
      (set_fresh cv rfl own_int).trans rfl
    have t : turnS wds NW_ (R n) (.t [.n 11, .n 12]) aoB (.tup [.str a, .int m]) (envG v (some (bf, .lst (bs.map rowD))) (some (bp, .dic ((nms T).map .inr) (plV T))) s3 s4 s5 s6 s7 s8 (some (true, .lst (r.map .int))) s10 s11 s12) u = .next (envG v (some (bf, .lst (bs.map rowD))) (some (bp, .dic ((nms T).map .inr) (plV T))) s3 s4 s5 s6 s7 s8 (some (true, .lst (((r.zip bs[pos T a]).map fun z => z.1 + m * z.2).map .int))) s10 (some (false, .str a)) (some (false, .int m))) u :=
      turn_of (by simp [Tg.put, Tg.puts, envG]) (evSs_one q1)
    rw [List.map_cons, forLoop, t]
    exact e
end
end K09

/-! k09, the plain law: the law's bounds of degrees of a figure. -/
namespace K09
open Ev PySem
section
variable {n : Nat} {u : Cup}
/-- bounds that grow as the steps ask -/
def Grow (S : List Stp) (β : Nat → Int) : Prop := ∀ A s B, S = A ++ s :: B → 2 + wsum A β ((depsOf s).zip (oft s)) ≤ β A.length ∧ β A.length < 1000000000000000000
theorem plV_snoc {T : List Stp} {s : Stp} : plV (T ++ [s]) = plV T ++ [.int (T.length : Int)] := by
  simp [plV, List.zipIdx_append]
theorem nms_snoc {T : List Stp} {s : Stp} : nms (T ++ [s]) = nms T ++ [s.nm] := by simp [nms]
abbrev boT : Tg := .t [.n 4, .t [.n 5, .n 6, .n 7]]
theorem rep8 : rep 8 [D.int 0] = (List.replicate 8 (0 : Int)).map .int := rfl
theorem row0 : Row 2 (List.replicate 8 (0 : Int)) := ⟨rfl, by decide⟩
theorem bo_turn {S A B : List Stp} {s : Stp} (h : Fig S) (hS : S = A ++ s :: B) {bs : List (List Int)} (hb : bs.length = A.length) {β : Nat → Int} (hg : Grow S β) (hβ : ∀ i (h : i < bs.length), Row (β i) bs[i]) {v s4 s5 s6 s7 s8 s9 s10 s11 s12 : Sl} :
    ∃ r t8 t9 t10 t11 t12, turnS wds NW_ (R (n + 1)) boT boB (.tup [.int (A.length : Int), stD s]) (envG v (some (true, .lst (bs.map rowD))) (some (true, plD A)) (some (false, .int (nums A))) s4 s5 s6 s7 s8 s9 s10 s11 s12) u = .next (envG v (some (true, .lst ((bs ++ [r]).map rowD))) (some (true, plD (A ++ [s]))) (some (false, .int (nums (A ++ [s])))) (some (false, .int (A.length : Int))) (some (false, .str s.nm)) (some (false, .str s.kd)) (some (false, .tup s.ar)) t8 t9 t10 t11 t12) u ∧ Row (β A.length) r := by
  have hs : S[A.length]? = some s := by rw [hS]; simp
  have tA : S.take A.length = A := by rw [hS]; simp
  have ok : OkS (nms A) s := by have z := h.at hs; rwa [tA] at z
  have sok := oks_so ok
  have nd := h.nd
  have nA : nms S = nms A ++ s.nm :: nms B := by rw [hS]; simp [nms]
  rw [nA, List.nodup_append, List.nodup_cons] at nd
  have ndA : (nms A).Nodup := nd.1
  have hnew : s.nm ∉ nms A := fun q => nd.2.2 s.nm q s.nm List.mem_cons_self rfl
  have hp := num_pos s
  have n8 := h.n8
  have l16 := h.l2
  have lS : S.length = A.length + (B.length + 1) := by rw [hS]; simp
  have nS : nums S = nums A + (num s + nums B) := by
    rw [hS, nums_app, show s :: B = [s] ++ B from rfl, nums_app, nums_one]
  have p0 := nums_pos (S := A)
  have p1 := nums_pos (S := B)
  have nA1 : nums (A ++ [s]) = nums A + num s := by rw [nums_app, nums_one]
  obtain ⟨g1, g2⟩ := hg A s B hS
  have gβ : ∀ i (h : i < bs.length), Row (β i) bs[i] ∧ β i < 1000000000000000000 := fun i hi => by
    refine ⟨hβ i hi, ?_⟩
    have hA : i < A.length := by omega
    have e : A = A.take i ++ A[i] :: A.drop (i + 1) := by rw [← List.drop_eq_getElem_cons hA, List.take_append_drop]
    have z := (hg (A.take i) A[i] (A.drop (i + 1) ++ s :: B) (by rw [hS]; exact (congrArg (fun l => l ++ s :: B) e).trans (by rw [List.append_assoc]; rfl))).2
    have lt : (A.take i).length = i := by rw [List.length_take]; omega
    rwa [lt] at z
  -- own signs
  obtain ⟨r1, t10, e1, row1⟩ := so_loop (n := n + 1) (u := u) (v := v) (f := some (true, .lst (bs.map rowD))) (p := some (true, plD A)) (s4 := some (false, .int (A.length : Int))) (s5 := some (false, .str s.nm)) (s7 := some (false, .tup s.ar)) (s8 := some (false, .tup ((oft s).map .int))) (s11 := s11) (s12 := s12) sok (xs := range (num s)) (g := nums A) (r := List.replicate 8 0) (s10 := s10) p0 (by simp [range]; omega) row0
  have lr : ((range (num s)).length : Int) = num s := by simp [range]; omega
  rw [lr, ← nA1] at e1
  -- the points
  have hl : ∀ q ∈ (depsOf s).zip (oft s), q.1 ∈ nms A ∧ 0 ≤ q.2 ∧ q.2 ≤ 3 := fun q hq => by
    obtain ⟨z1, z2⟩ := List.of_mem_zip (show (q.1, q.2) ∈ _ from hq)
    exact ⟨deps_mem ok _ z1, oft_mem _ z2⟩
  obtain ⟨r2, t11, t12, e2, row2⟩ := ao_loop (n := n + 1) (u := u) ndA hb gβ (v := v) (s3 := some (false, .int (nums (A ++ [s])))) (s4 := some (false, .int (A.length : Int))) (s5 := some (false, .str s.nm)) (s6 := some (false, .str s.kd)) (s7 := some (false, .tup s.ar)) (s8 := some (false, .tup ((oft s).map .int))) (s10 := t10) (bf := true) (bp := true) (l := (depsOf s).zip (oft s)) (s11 := s11) (s12 := s12) hl row1
  refine ⟨r2, some (false, .tup ((oft s).map .int)), some (true, .lst (r2.map .int)), t10, t11, t12, ?_, ⟨row2.l8, fun x hx => ⟨(row2.le x hx).1, by have := (row2.le x hx).2; omega⟩⟩⟩
  have q1 : evS wds NW_ (R (n + 1)) (.set 8 (.dget (.dic [(.c (.str (PySem.Str.ofString "foot"))), (.tup [(.c (.int 1)), (.c (.int 3)), (.c (.int 2))]), (.c (.str (PySem.Str.ofString "mirror"))), (.tup [(.c (.int 1)), (.c (.int 3)), (.c (.int 2))]), (.c (.str (PySem.Str.ofString "second"))), (.tup [(.c (.int 3)), (.c (.int 2)), (.c (.int 1))]), (.c (.str (PySem.Str.ofString "rings"))), (.tup [(.c (.int 3)), (.c (.int 2)), (.c (.int 1))]), (.c (.str (PySem.Str.ofString "round"))), (.tup [(.c (.int 3)), (.c (.int 2)), (.c (.int 2))])]) [(.v 6), (.tup [(.c (.int 1)), (.c (.int 1)), (.c (.int 1)), (.c (.int 1))])])) (envG v (some (true, .lst (bs.map rowD))) (some (true, plD A)) (some (false, .int (nums A))) (some (false, .int (A.length : Int))) (some (false, .str s.nm)) (some (false, .str s.kd)) (some (false, .tup s.ar)) s8 s9 s10 s11 s12) u = .next (envG v (some (true, .lst (bs.map rowD))) (some (true, plD A)) (some (false, .int (nums A))) (some (false, .int (A.length : Int))) (some (false, .str s.nm)) (some (false, .str s.kd)) (some (false, .tup s.ar)) (some (false, .tup ((oft s).map .int))) s9 s10 s11 s12) u := by
    have ed : ∀ env : En, evE wds NW_ (R (n + 1)) (.dic [(.c (.str (PySem.Str.ofString "foot"))), (.tup [(.c (.int 1)), (.c (.int 3)), (.c (.int 2))]), (.c (.str (PySem.Str.ofString "mirror"))), (.tup [(.c (.int 1)), (.c (.int 3)), (.c (.int 2))]), (.c (.str (PySem.Str.ofString "second"))), (.tup [(.c (.int 3)), (.c (.int 2)), (.c (.int 1))]), (.c (.str (PySem.Str.ofString "rings"))), (.tup [(.c (.int 3)), (.c (.int 2)), (.c (.int 1))]), (.c (.str (PySem.Str.ofString "round"))), (.tup [(.c (.int 3)), (.c (.int 2)), (.c (.int 2))])]) env u = .ok (.dic oftK oftV) u := fun env => by
      have dv : dicV [.str (PySem.Str.ofString "foot"), .tup [.int 1, .int 3, .int 2], .str (PySem.Str.ofString "mirror"), .tup [.int 1, .int 3, .int 2], .str (PySem.Str.ofString "second"), .tup [.int 3, .int 2, .int 1], .str (PySem.Str.ofString "rings"), .tup [.int 3, .int 2, .int 1], .str (PySem.Str.ofString "round"), .tup [.int 3, .int 2, .int 2]] = some (.dic oftK oftV) := by rfl
      simp [evE, evL, Re.bind, big, dv, lift]
    have gv := oft_get s
    have vv : evE wds NW_ (R (n + 1)) (.dget (.dic [(.c (.str (PySem.Str.ofString "foot"))), (.tup [(.c (.int 1)), (.c (.int 3)), (.c (.int 2))]), (.c (.str (PySem.Str.ofString "mirror"))), (.tup [(.c (.int 1)), (.c (.int 3)), (.c (.int 2))]), (.c (.str (PySem.Str.ofString "second"))), (.tup [(.c (.int 3)), (.c (.int 2)), (.c (.int 1))]), (.c (.str (PySem.Str.ofString "rings"))), (.tup [(.c (.int 3)), (.c (.int 2)), (.c (.int 1))]), (.c (.str (PySem.Str.ofString "round"))), (.tup [(.c (.int 3)), (.c (.int 2)), (.c (.int 2))])]) [(.v 6), (.tup [(.c (.int 1)), (.c (.int 1)), (.c (.int 1)), (.c (.int 1))])]) (envG v (some (true, .lst (bs.map rowD))) (some (true, plD A)) (some (false, .int (nums A))) (some (false, .int (A.length : Int))) (some (false, .str s.nm)) (some (false, .str s.kd)) (some (false, .tup s.ar)) s8 s9 s10 s11 s12) u = .ok (.tup ((oft s).map .int)) u := by
      rw [evE, ed]
      simp [Re.bind, evL, evE, envG, big, dgetV, D.key, gv, lift]
    have fl : D.flat (.tup ((oft s).map .int)) = true := flats_int
    exact (set_flat vv fl rfl).trans rfl
  have q2 : evS wds NW_ (R (n + 1)) (.set 9 (.bin .Mult (.lst [(.c (.int 0))]) (.c (.int 8)))) (envG v (some (true, .lst (bs.map rowD))) (some (true, plD A)) (some (false, .int (nums A))) (some (false, .int (A.length : Int))) (some (false, .str s.nm)) (some (false, .str s.kd)) (some (false, .tup s.ar)) (some (false, .tup ((oft s).map .int))) s9 s10 s11 s12) u = .next (envG v (some (true, .lst (bs.map rowD))) (some (true, plD A)) (some (false, .int (nums A))) (some (false, .int (A.length : Int))) (some (false, .str s.nm)) (some (false, .str s.kd)) (some (false, .tup s.ar)) (some (false, .tup ((oft s).map .int))) (some (true, .lst ((List.replicate 8 (0 : Int)).map .int))) s10 s11 s12) u := by
    have m : binV .Mult (.lst [.int 0]) (.int 8) = some (.lst ((List.replicate 8 (0 : Int)).map .int)) := mulL (by decide) (by decide) (by decide)
    have vv : ∀ env : En, evE wds NW_ (R (n + 1)) (.bin .Mult (.lst [(.c (.int 0))]) (.c (.int 8))) env u = .ok (.lst ((List.replicate 8 (0 : Int)).map .int)) u := fun env => by
      simp only [evE, evL, Re.bind]
      rw [if_pos (by decide)]
      simp only [m, lift]
    exact (set_fresh (vv _) rfl own_int).trans rfl
  have q3 : evS wds NW_ (R (n + 1)) (.for_ (.n 10) (.rng (.call 26 [(.tup [(.v 5), (.v 6), (.v 7)])])) soB) (envG v (some (true, .lst (bs.map rowD))) (some (true, plD A)) (some (false, .int (nums A))) (some (false, .int (A.length : Int))) (some (false, .str s.nm)) (some (false, .str s.kd)) (some (false, .tup s.ar)) (some (false, .tup ((oft s).map .int))) (some (true, .lst ((List.replicate 8 (0 : Int)).map .int))) s10 s11 s12) u = .next (envG v (some (true, .lst (bs.map rowD))) (some (true, plD A)) (some (false, .int (nums (A ++ [s])))) (some (false, .int (A.length : Int))) (some (false, .str s.nm)) (some (false, .str s.kd)) (some (false, .tup s.ar)) (some (false, .tup ((oft s).map .int))) (some (true, .lst (r1.map .int))) t10 s11 s12) u := by
    have c26 : R (n + 1) 26 [stD s] u = .ok (.int (num s)) u := free_ok sok
    refine for_next (d := .lst (range (num s))) (u1 := u) (rng_ok ?_ hp.1 (by omega)) rfl ?_ e1
    · simp only [R, stD] at c26
      simp [evE, evL, Re.bind, envG, big, c26]
    · simp [Ex.fz, Ex.fresh, Ex.fv, Ex.fvs, freeze, frz_some, frz_not, envG]
  have q4 : evS wds NW_ (R (n + 1)) (.for_ (.t [(.n 11), (.n 12)]) (.zip (.ite (.cmp .NotEq (.v 6) (.c (.str (PySem.Str.ofString "fixed")))) (.v 7) (.tup [])) (.v 8)) aoB) (envG v (some (true, .lst (bs.map rowD))) (some (true, plD A)) (some (false, .int (nums (A ++ [s])))) (some (false, .int (A.length : Int))) (some (false, .str s.nm)) (some (false, .str s.kd)) (some (false, .tup s.ar)) (some (false, .tup ((oft s).map .int))) (some (true, .lst (r1.map .int))) t10 s11 s12) u = .next (envG v (some (true, .lst (bs.map rowD))) (some (true, plD A)) (some (false, .int (nums (A ++ [s])))) (some (false, .int (A.length : Int))) (some (false, .str s.nm)) (some (false, .str s.kd)) (some (false, .tup s.ar)) (some (false, .tup ((oft s).map .int))) (some (true, .lst (r2.map .int))) t10 t11 t12) u := by
    refine for_next (d := .lst (((depsOf s).zip (oft s)).map fun q => .tup [.str q.1, .int q.2])) (u1 := u) ?_ rfl ?_ e2
    · have z : (((depsOf s).map D.str).zip ((oft s).map D.int)).map (fun p => D.tup [p.1, p.2]) = ((depsOf s).zip (oft s)).map fun q => .tup [.str q.1, .int q.2] := by
        rw [List.zip_map, List.map_map]
        rfl
      by_cases hk : s.kd = "fixed"
      · have d0 : depsOf s = [] := by unfold depsOf; rw [if_pos hk]
        simp [evE, evL, Re.bind, envG, lift, hk, ne_S so_fixed so_fixed, d0, big]
      · have ea := deps_ar ok hk
        rw [ea]
        simp [evE, evL, Re.bind, envG, lift, hk, ne_S sok so_fixed]
        exact z
    · simp [Ex.fz, Ex.fresh, Ex.fv, Ex.fvs, freeze, frz_some, frz_not, envG]
      rfl
  have q5 : evS wds NW_ (R (n + 1)) (.sub 2 (.v 5) (.v 4)) (envG v (some (true, .lst (bs.map rowD))) (some (true, plD A)) (some (false, .int (nums (A ++ [s])))) (some (false, .int (A.length : Int))) (some (false, .str s.nm)) (some (false, .str s.kd)) (some (false, .tup s.ar)) (some (false, .tup ((oft s).map .int))) (some (true, .lst (r2.map .int))) t10 t11 t12) u = .next (envG v (some (true, .lst (bs.map rowD))) (some (true, plD (A ++ [s]))) (some (false, .int (nums (A ++ [s])))) (some (false, .int (A.length : Int))) (some (false, .str s.nm)) (some (false, .str s.kd)) (some (false, .tup s.ar)) (some (false, .tup ((oft s).map .int))) (some (true, .lst (r2.map .int))) t10 t11 t12) u := by
    have hk : hasK ((nms A).map Sum.inr) (.inr s.nm) = false := by rw [hasK_inr]; simp [hnew]
    have lA : (nms A).length < 16777216 := by simp [nms]; omega
    simp [evS, evE, ofRe, envG, plD, D.key, D.flat, big, lA, putKs_new hk, putDs_new hk, plV_snoc, nms_snoc]
  have q6 : evS wds NW_ (R (n + 1)) (.app 1 (.bi .tuple [(.v 9)])) (envG v (some (true, .lst (bs.map rowD))) (some (true, plD (A ++ [s]))) (some (false, .int (nums (A ++ [s])))) (some (false, .int (A.length : Int))) (some (false, .str s.nm)) (some (false, .str s.kd)) (some (false, .tup s.ar)) (some (false, .tup ((oft s).map .int))) (some (true, .lst (r2.map .int))) t10 t11 t12) u = .next (envG v (some (true, .lst ((bs ++ [r2]).map rowD))) (some (true, plD (A ++ [s]))) (some (false, .int (nums (A ++ [s])))) (some (false, .int (A.length : Int))) (some (false, .str s.nm)) (some (false, .str s.kd)) (some (false, .tup s.ar)) (some (false, .tup ((oft s).map .int))) (some (true, .lst (r2.map .int))) t10 t11 t12) u := by
    have lb : bs.length < 16777216 := by omega
    have fl : D.flats (r2.map .int) = true := flats_int
    simp [evS, evE, evL, Re.bind, ofRe, envG, biV, lift, D.flat, fl, big, lb, rowD]
  exact turn_of (by simp [Tg.put, Tg.puts, stD, envG]) ((evSs_next q1).trans ((evSs_next q2).trans ((evSs_next q3).trans ((evSs_next q4).trans ((evSs_next q5).trans (evSs_one q6))))))
theorem bo_loop {S : List Stp} (h : Fig S) {β : Nat → Int} (hg : Grow S β) {v : Sl} : ∀ {T A : List Stp} {bs : List (List Int)} {s4 s5 s6 s7 s8 s9 s10 s11 s12 : Sl}, S = A ++ T → bs.length = A.length → (∀ i (h : i < bs.length), Row (β i) bs[i]) →
    ∃ (bs' : List (List Int)) (t2 t3 t4 t5 t6 t7 t8 t9 t10 t11 t12 : Sl), forLoop (turnS wds NW_ (R (n + 1)) boT boB) (pairs A.length (T.map stD)) (envG v (some (true, .lst (bs.map rowD))) (some (true, plD A)) (some (false, .int (nums A))) s4 s5 s6 s7 s8 s9 s10 s11 s12) u = .next (envG v (some (true, .lst (bs'.map rowD))) t2 t3 t4 t5 t6 t7 t8 t9 t10 t11 t12) u ∧ bs'.length = S.length ∧ ∀ i (h : i < bs'.length), Row (β i) bs'[i]
  | [], A, bs, s4, s5, s6, s7, s8, s9, s10, s11, s12, hS, hb, hβ => ⟨bs, _, _, s4, s5, s6, s7, s8, s9, s10, s11, s12, rfl, by rw [hb, hS, List.append_nil], hβ⟩
  | s :: T, A, bs, s4, s5, s6, s7, s8, s9, s10, s11, s12, hS, hb, hβ => by
    obtain ⟨r, a8, a9, a10, a11, a12, e, row⟩ := bo_turn (n := n) (u := u) h hS hb hg hβ (v := v) (s4 := s4) (s5 := s5) (s6 := s6) (s7 := s7) (s8 := s8) (s9 := s9) (s10 := s10) (s11 := s11) (s12 := s12)
    have hS' : S = (A ++ [s]) ++ T := by rw [hS]; simp
    obtain ⟨bs', t2, t3, t4, t5, t6, t7, t8, t9, t10, t11, t12, e2, l2, h2⟩ := bo_loop h hg (v := v) (T := T) (A := A ++ [s]) (bs := bs ++ [r]) (s4 := some (false, .int (A.length : Int))) (s5 := some (false, .str s.nm)) (s6 := some (false, .str s.kd)) (s7 := some (false, .tup s.ar)) (s8 := a8) (s9 := a9) (s10 := a10) (s11 := a11) (s12 := a12) hS' (by simp [hb]) (fun i hi => by
      by_cases q : i < bs.length
      · rw [List.getElem_append_left q]
        exact hβ i q
      · rw [List.length_append, List.length_singleton] at hi
        have qi : i = bs.length := by omega
        subst qi
        rw [List.getElem_append_right (Nat.le_refl _)]
        simp only [Nat.sub_self, List.getElem_cons_zero]
        rw [hb]
        exact row)
    refine ⟨bs', t2, t3, t4, t5, t6, t7, t8, t9, t10, t11, t12, ?_, l2, h2⟩
    rw [List.length_append] at e2
    rw [List.map_cons, pairs, forLoop, e]
    exact e2
theorem bounds_ok {S : List Stp} (h : Fig S) {β : Nat → Int} (hg : Grow S β) : ∃ bs : List (List Int), R (n + 2) 27 [.lst (S.map stD)] u = .ok (.lst (bs.map rowD)) u ∧ bs.length = S.length ∧ ∀ i (h : i < bs.length), Row (β i) bs[i] := by
  obtain ⟨bs, t2, t3, t4, t5, t6, t7, t8, t9, t10, t11, t12, e, l, hb⟩ := bo_loop (n := n) (u := u) h hg (v := some (false, .lst (S.map stD))) (T := S) (A := []) (bs := []) (s4 := none) (s5 := none) (s6 := none) (s7 := none) (s8 := none) (s9 := none) (s10 := none) (s11 := none) (s12 := none) rfl rfl (fun i hi => by cases hi)
  refine ⟨bs, ?_, l, hb⟩
  have q1 : evS wds NW_ (R (n + 1)) (.par [1, 2, 3] [(.lst []), (.dic []), (.c (.int 0))]) (Ev.start [.lst (S.map stD)] 15) u = .next (envG (some (false, .lst (S.map stD))) (some (true, .lst [])) (some (true, plD [])) (some (false, .int (nums []))) none none none none none none none none none) u := by
    simp [evS, evE, evL, Re.bind, lift, dicV, keys, evens, odds, mergeD, Ex.fresh, D.ownable, D.isBox, D.its, D.flats, D.flat, setPar, Ev.start, envG, plD, plV, nms, nums, big]
  have q2 : evS wds NW_ (R (n + 1)) (.for_ boT (.enu (.v 0)) boB) (envG (some (false, .lst (S.map stD))) (some (true, .lst [])) (some (true, plD [])) (some (false, .int (nums []))) none none none none none none none none none) u = .next (envG (some (false, .lst (S.map stD))) (some (true, .lst (bs.map rowD))) t2 t3 t4 t5 t6 t7 t8 t9 t10 t11 t12) u := by
    refine for_next (d := .lst (pairs 0 (S.map stD))) (u1 := u) ?_ rfl ?_ e
    · simp [evE, envG, Re.bind, lift, enuV]
    · simp [Ex.fz, Ex.fresh, Ex.fv, freeze, frz_some, frz_not, envG, plD]
  have q3 : evS wds NW_ (R (n + 1)) (.ret (.v 1)) (envG (some (false, .lst (S.map stD))) (some (true, .lst (bs.map rowD))) t2 t3 t4 t5 t6 t7 t8 t9 t10 t11 t12) u = .ret (.lst (bs.map rowD)) u := by
    simp [evS, evE, ofRe, envG]
  exact run_ret d_law_bounds rfl rfl ((evSs_next q1).trans ((evSs_next q2).trans (evSs_ret q3)))
end
end K09

/-! k09, the plain law: the drawn steps. -/
namespace K09
open Ev PySem
theorem good_snoc : ∀ {S : List Stp} {ns : List Str} {s : Stp}, Good ns S → s.nm ∈ QW → s.nm ∉ ns ++ nms S → OkS (ns ++ nms S) s → Good ns (S ++ [s])
  | [], ns, s, _, h1, h2, h3 => ⟨h1, by simpa [nms] using h2, by simpa [nms] using h3, trivial⟩
  | t :: S, ns, s, ⟨a, b, c, d⟩, h1, h2, h3 => ⟨a, b, c, good_snoc d h1 (by simpa [nms] using h2) (by simpa [nms] using h3)⟩
theorem good_take : ∀ {S : List Stp} {ns : List Str} {i : Nat}, Good ns S → Good ns (S.take i)
  | [], _, i, _ => by simp [Good]
  | t :: S, ns, 0, _ => trivial
  | t :: S, ns, i + 1, ⟨a, b, c, d⟩ => ⟨a, b, c, good_take d⟩
/-- the first three steps -/
structure Small (a b c : Stp) : Prop where
  na : a.nm = "A"
  nb : b.nm = "B"
  da : depsOf a = []
  db : depsOf b = []
  dc : depsOf c = [] ∨ (oft c = [1, 1, 1, 1] ∧ (depsOf c = [("A" : Str), ("B" : Str)] ∨ depsOf c = [("B" : Str), ("A" : Str)]))
structure Dr (S : List Stp) : Prop where
  g : Good [] S
  n3 : nums S ≤ 3
  pre : ∃ a b c T, S = a :: b :: c :: T ∧ Small a b c
  l6 : S.length ≤ 6
theorem Dr.fig {S : List Stp} (h : Dr S) : Fig S := by
  obtain ⟨a, b, c, T, e, _⟩ := h.pre
  exact ⟨h.g, by rw [e]; simp, by have := h.l6; omega, by have := h.n3; omega⟩
section
variable {n : Nat} {u : Cup}
def envF (s1 s2 : Sl) (S : List Stp) (s4 s5 s6 s7 s8 s9 : Sl) : En := [some (false, .cup), s1, s2, some (true, .lst (S.map stD)), s4, s5, s6, s7, s8, s9, none, none]
def mK : List L2.Key := [.inr "middle", .inr "past", .inr "turned", .inr "meet", .inr "foot", .inr "mirror", .inr "second", .inr "round", .inr "rings", .inr "on line"]
def mV : List D := [.int 2, .int 3, .int 2, .int 4, .int 3, .int 3, .int 3, .int 3, .int 3, .int 2]
def mL : List Str := ["foot", "meet", "middle", "mirror", "on line", "past", "rings", "round", "second", "turned"]
theorem m_sort : biV .sorted [.dic mK mV] = some (.lst (mL.map .str)) := by kernel_rfl
theorem m_get {k : Str} (h : k ∈ mL) : ∃ m : Nat, (k, m) ∈ KDS ∧ lkK mK mV (.inr k) = some (.int m) ∧ m ≤ 4 ∧ k ≠ "free" ∧ k ≠ "on ring" := by
  simp only [mL, List.mem_cons, List.not_mem_nil, or_false] at h
  rcases h with rfl | rfl | rfl | rfl | rfl | rfl | rfl | rfl | rfl | rfl
  · exact ⟨3, by simp [KDS], by kernel_rfl, by decide, by decide, by decide⟩
  · exact ⟨4, by simp [KDS], by kernel_rfl, by decide, by decide, by decide⟩
  · exact ⟨2, by simp [KDS], by kernel_rfl, by decide, by decide, by decide⟩
  · exact ⟨3, by simp [KDS], by kernel_rfl, by decide, by decide, by decide⟩
  · exact ⟨2, by simp [KDS], by kernel_rfl, by decide, by decide, by decide⟩
  · exact ⟨3, by simp [KDS], by kernel_rfl, by decide, by decide, by decide⟩
  · exact ⟨3, by simp [KDS], by kernel_rfl, by decide, by decide, by decide⟩
  · exact ⟨3, by simp [KDS], by kernel_rfl, by decide, by decide, by decide⟩
  · exact ⟨3, by simp [KDS], by kernel_rfl, by decide, by decide, by decide⟩
  · exact ⟨2, by simp [KDS], by kernel_rfl, by decide, by decide, by decide⟩
abbrev afB : List Sx := match d_law_any_figure.body.getD 7 .pass with
  | .for_ _ _ b => b
  | _ => []
theorem lst_str {P : Str → Prop} {ys : List D} (h : ∀ y ∈ ys, ∃ a : Str, y = .str a ∧ P a) : ∃ as : List Str, ys = as.map .str ∧ ∀ a ∈ as, P a := by
  induction ys with
  | nil => exact ⟨[], rfl, fun a ha => by cases ha⟩
  | cons y ys ih =>
    obtain ⟨a, rfl, pa⟩ := h y List.mem_cons_self
    obtain ⟨as, rfl, p⟩ := ih fun z hz => h z (List.mem_cons_of_mem _ hz)
    exact ⟨a :: as, rfl, fun b hb => by
      rcases List.mem_cons.mp hb with rfl | hb
      · exact pa
      · exact p b hb⟩
theorem af_turn {S : List Stp} (h : Dr S) (hl : S.length < 6) {x : Str} (hx : x ∈ QW) (hxn : x ∉ nms S) {s1 s2 s4 s6 s7 s8 s9 : Sl} {b5 : Bool} :
    ∃ S' t7 t8 t9 u', turnS wds NW_ (R (n + 4)) (.n 6) afB (.str x) (envF s1 s2 S s4 (some (b5, .dic mK mV)) s6 s7 s8 s9) u = .next (envF s1 s2 S' s4 (some (b5, .dic mK mV)) (some (false, .str x)) t7 t8 t9) u' ∧ Dr S' ∧ (S' = S ∨ ∃ s, S' = S ++ [s] ∧ s.nm = x) := by
  have F := h.fig
  have l6 := h.l6
  have lb : S.length ≤ 16777216 := by omega
  have lS1 : 1 ≤ S.length := F.l1
  obtain ⟨dk, u1, ek, hk0⟩ := some_ok (n := n + 2) (xs := mL.map .str) (u := u) (by decide) (by decide)
  obtain ⟨k, hk, rfl⟩ := List.mem_map.mp hk0
  obtain ⟨m, hm, gm, m4, kf, kr⟩ := m_get hk
  have sok : SO k := (args_ok (n := 0) (u := (0, 0)) hm).2.2
  have kx : k ≠ "fixed" := (args_ok (n := 0) (u := (0, 0)) hm).2.1
  have im : ∀ u : Cup, ixR (.dic mK mV) (.str k) u = .ok (.int (m : Int)) u := fun u => by
    show lift (ixV _ _) u = _
    simp [ixV, D.key, gm, lift]
  -- kind
  have q1 : evS wds NW_ (R (n + 4)) (.set 7 (.call 23 [(.v 0), (.bi .sorted [(.v 5)])])) (envF s1 s2 S s4 (some (b5, .dic mK mV)) (some (false, .str x)) s7 s8 s9) u = .next (envF s1 s2 S s4 (some (b5, .dic mK mV)) (some (false, .str x)) (some (false, .str k)) s8 s9) u1 := by
    have v : evE wds NW_ (R (n + 4)) (.call 23 [(.v 0), (.bi .sorted [(.v 5)])]) (envF s1 s2 S s4 (some (b5, .dic mK mV)) (some (false, .str x)) s7 s8 s9) u = .ok (.str k) u1 := by
      simp [evE, evL, Re.bind, envF, m_sort, lift, ek]
    exact (set_flat v rfl rfl).trans rfl
  -- names
  have q2 : evS wds NW_ (R (n + 4)) (.set 8 (.lc [10] (.n 10) (.v 3) [] (.ix (.v 10) (.c (.int 0))))) (envF s1 s2 S s4 (some (b5, .dic mK mV)) (some (false, .str x)) (some (false, .str k)) s8 s9) u1 = .next (envF s1 s2 S s4 (some (b5, .dic mK mV)) (some (false, .str x)) (some (false, .str k)) (some (true, .lst ((nms S).map .str))) s9) u1 := by
    have v : evE wds NW_ (R (n + 4)) (.lc [10] (.n 10) (.v 3) [] (.ix (.v 10) (.c (.int 0)))) (envF s1 s2 S s4 (some (b5, .dic mK mV)) (some (false, .str x)) (some (false, .str k)) s8 s9) u1 = .ok (.lst ((nms S).map .str)) u1 := by
      simp only [evE, Re.bind, envF, List.getElem?_cons_succ, List.getElem?_cons_zero, D.items]
      rw [lc_mapG (g := fun s : Stp => .str s.nm) fun s hs => ?_]
      · simp [noExc, big, lb, nms]
      · simp [Tg.put, wipeE, evB, evE, Re.bind, stD, ixR, ixV, L2.atI, L2.ixN, lift]
    exact (set_fresh v rfl own_str).trans rfl
  have ln : ((nms S).map D.str).length = S.length := by simp [nms]
  have ixn : ∀ (z : Int) (u : Cup), 0 ≤ z → z < S.length → ∃ a ∈ nms S, ixR (.lst ((nms S).map .str)) (.int z) u = .ok (.str a) u := fun z u z0 z1 => by
    obtain ⟨i, rfl⟩ := Int.eq_ofNat_of_zero_le z0
    have hi : i < (nms S).length := by simp [nms]; omega
    refine ⟨(nms S)[i], List.getElem_mem hi, ?_⟩
    show lift (ixV _ _) u = _
    simp [ixV, atI_nat, hi, lift]
  -- args
  obtain ⟨as1, u3, q3, ha1⟩ : ∃ (as : List Str) (u' : Cup), evS wds NW_ (R (n + 4)) (.set 9 (.bi .tuple [(.lc [11] (.n 11) (.rng (.ix (.v 5) (.v 7))) [] (.ix (.v 8) (.call 22 [(.v 0), (.bi .len [(.v 8)])])))])) (envF s1 s2 S s4 (some (b5, .dic mK mV)) (some (false, .str x)) (some (false, .str k)) (some (true, .lst ((nms S).map .str))) s9) u1 = .next (envF s1 s2 S s4 (some (b5, .dic mK mV)) (some (false, .str x)) (some (false, .str k)) (some (true, .lst ((nms S).map .str))) (some (false, .tup (as.map .str)))) u' ∧ ∀ a ∈ as, a ∈ nms S := by
    have src : evE wds NW_ (R (n + 4)) (.rng (.ix (.v 5) (.v 7))) (envF s1 s2 S s4 (some (b5, .dic mK mV)) (some (false, .str x)) (some (false, .str k)) (some (true, .lst ((nms S).map .str))) s9) u1 = .ok (.lst (range (m : Int))) u1 := by
      refine rng_ok ?_ (by omega) (by omega)
      simp [evE, Re.bind, envF, im]
    have body : ∃ ys u', lcLoop (turnE wds NW_ (R (n + 4)) [11] (.n 11) [] (.ix (.v 8) (.call 22 [(.v 0), (.bi .len [(.v 8)])])) (envF s1 s2 S s4 (some (b5, .dic mK mV)) (some (false, .str x)) (some (false, .str k)) (some (true, .lst ((nms S).map .str))) s9)) (range (m : Int)) u1 = .ok ys u' ∧ ys.length = (range (m : Int)).length ∧ ∀ y ∈ ys, ∃ a : Str, y = .str a ∧ a ∈ nms S := by
      refine lc_draw (P := fun y => ∃ a : Str, y = .str a ∧ a ∈ nms S) fun d hd u => ?_
      obtain ⟨z, u', e, z0, z1⟩ := roll_sm (n := n + 3) (m := (S.length : Int)) (u := u) (by omega) (by omega)
      obtain ⟨a, ha, ea⟩ := ixn z u' z0 z1
      refine ⟨.str a, u', lcF_val (e1 := [some (false, .cup), s1, s2, some (true, .lst (S.map stD)), s4, some (b5, .dic mK mV), some (false, .str x), some (false, .str k), some (true, .lst ((nms S).map .str)), s9, none, some (false, d)]) (by simp [Tg.put, wipeE, envF]) ?_, a, rfl, ha⟩
      have lnS : (((nms S).map D.str).length : Int) = (S.length : Int) := by rw [ln]
      simp only [evE, evL, Re.bind, List.getElem?_cons_succ, List.getElem?_cons_zero, biV, lift, lnS]
      rw [e]
      simp only [Re.bind]
      exact ea
    obtain ⟨ys, u', eb, ly, py⟩ := body
    obtain ⟨as, rfl, pa⟩ := lst_str py
    refine ⟨as, u', ?_, pa⟩
    have la : as.length ≤ 16777216 := by
      have : (range (m : Int)).length = m := range_ln
      rw [List.length_map, this] at ly
      omega
    have v : evE wds NW_ (R (n + 4)) (.bi .tuple [(.lc [11] (.n 11) (.rng (.ix (.v 5) (.v 7))) [] (.ix (.v 8) (.call 22 [(.v 0), (.bi .len [(.v 8)])])))]) (envF s1 s2 S s4 (some (b5, .dic mK mV)) (some (false, .str x)) (some (false, .str k)) (some (true, .lst ((nms S).map .str))) s9) u1 = .ok (.tup (as.map .str)) u' := by
      have lm : (range (m : Int)).length ≤ big := by
        have : (range (m : Int)).length = m := range_ln
        rw [this]
        exact Nat.le_trans m4 (by decide)
      have v0 : evE wds NW_ (R (n + 4)) (.lc [11] (.n 11) (.rng (.ix (.v 5) (.v 7))) [] (.ix (.v 8) (.call 22 [(.v 0), (.bi .len [(.v 8)])]))) (envF s1 s2 S s4 (some (b5, .dic mK mV)) (some (false, .str x)) (some (false, .str k)) (some (true, .lst ((nms S).map .str))) s9) u1 = .ok (.lst (as.map .str)) u' := by
        exact lc_val src rfl lm eb
      rw [evE, evL_one v0]
      rfl
    have fl : D.flat (.tup (as.map .str)) = true := flats_str
    exact (set_flat v fl rfl).trans rfl
  -- mostly unlike ones
  obtain ⟨as2, u4, q4, ha2⟩ : ∃ (as : List Str) (u' : Cup), evS wds NW_ (R (n + 4)) (.ite (.cmp .Gt (.call 22 [(.v 0), (.c (.int 3))]) (.c (.int 0))) [(.set 9 (.bi .tuple [(.sl (.lc [11] (.n 11) (.call 29 [(.v 0), (.bi .len [(.v 8)])]) [] (.ix (.v 8) (.v 11))) (.c .non) (.ix (.v 5) (.v 7)))]))] []) (envF s1 s2 S s4 (some (b5, .dic mK mV)) (some (false, .str x)) (some (false, .str k)) (some (true, .lst ((nms S).map .str))) (some (false, .tup (as1.map .str)))) u3 = .next (envF s1 s2 S s4 (some (b5, .dic mK mV)) (some (false, .str x)) (some (false, .str k)) (some (true, .lst ((nms S).map .str))) (some (false, .tup (as.map .str)))) u' ∧ ∀ a ∈ as, a ∈ nms S := by
    obtain ⟨z, u', e, z0, z1⟩ := roll_sm (n := n + 3) (m := 3) (u := u3) (by decide) (by decide)
    simp only [R] at e
    by_cases hz : 0 < z
    · obtain ⟨G, u6, eG, lG, gG⟩ := turned_ok (n := n + 2) (u := u') (m := S.length) (by omega)
      have fa : ∀ z ∈ G, ∃ a ∈ nms S, ∀ u, ixR (.lst ((nms S).map .str)) (.int z) u = .ok (.str a) u := fun z hz => by
        obtain ⟨a, ha, e⟩ := ixn z (0, 0) (gG z hz).1 (gG z hz).2
        refine ⟨a, ha, fun u => ?_⟩
        have e : lift (ixV (.lst ((nms S).map .str)) (.int z)) (0, 0) = .ok (.str a) (0, 0) := e
        show lift (ixV (.lst ((nms S).map .str)) (.int z)) u = _
        cases q : ixV (.lst ((nms S).map .str)) (.int z) with
        | none => rw [q] at e; cases e
        | some w => rw [q] at e; cases e; rfl
      let pk : Int → D := fun z => (ixV (.lst ((nms S).map .str)) (.int z)).getD .non
      have pk1 : ∀ z ∈ G, ∃ a ∈ nms S, pk z = .str a ∧ ∀ u, ixR (.lst ((nms S).map .str)) (.int z) u = .ok (pk z) u := fun z hz => by
        obtain ⟨a, ha, e⟩ := fa z hz
        have e0 : lift (ixV (.lst ((nms S).map .str)) (.int z)) (0, 0) = .ok (.str a) (0, 0) := e (0, 0)
        have ep : pk z = .str a := by
          show (ixV (.lst ((nms S).map .str)) (.int z)).getD .non = _
          cases q : ixV (.lst ((nms S).map .str)) (.int z) with
          | none => rw [q] at e0; cases e0
          | some w => rw [q] at e0; cases e0; rfl
        exact ⟨a, ha, ep, fun u => by rw [ep]; exact e u⟩
      obtain ⟨as, eas, pas⟩ := lst_str (P := fun a => a ∈ nms S) (ys := G.map pk) fun y hy => by
        obtain ⟨z, hz, rfl⟩ := List.mem_map.mp hy
        obtain ⟨a, ha, e, _⟩ := pk1 z hz
        exact ⟨a, e, ha⟩
      have lG2 : G.length ≤ 16777216 := by omega
      have v0 : evE wds NW_ (R (n + 4)) (.lc [11] (.n 11) (.call 29 [(.v 0), (.bi .len [(.v 8)])]) [] (.ix (.v 8) (.v 11))) (envF s1 s2 S s4 (some (b5, .dic mK mV)) (some (false, .str x)) (some (false, .str k)) (some (true, .lst ((nms S).map .str))) (some (false, .tup (as1.map .str)))) u' = .ok (.lst (as.map .str)) u6 := by
        have src : evE wds NW_ (R (n + 4)) (.call 29 [(.v 0), (.bi .len [(.v 8)])]) (envF s1 s2 S s4 (some (b5, .dic mK mV)) (some (false, .str x)) (some (false, .str k)) (some (true, .lst ((nms S).map .str))) (some (false, .tup (as1.map .str)))) u' = .ok (.lst (G.map .int)) u6 := by
          have lnS : (((nms S).map D.str).length : Int) = (S.length : Int) := by rw [ln]
          simp only [evE, evL, Re.bind, envF, List.getElem?_cons_succ, List.getElem?_cons_zero, biV, lift, lnS]
          exact eG
        rw [evE, src]
        simp only [Re.bind, D.items]
        rw [lc_mapG (g := pk) fun z hz => ?_]
        · simp only [noExc]
          rw [if_pos (by rw [List.length_map]; exact lG2), eas]
        · obtain ⟨a, ha, ep, ei⟩ := pk1 z hz
          simp [Tg.put, wipeE, envF, evB, evE, Re.bind, ei]
      have sl : slV (.lst (as.map .str)) none (some (some (m : Int))) = some (.lst ((as.take m).map .str)) := by
        simp only [slV]
        have : cutG (as.map D.str) none (some (m : Int)) = (as.map D.str).take m := by
          unfold cutG
          rw [HT.sIx_nat, HT.sIx_none]
          simp only [Nat.sub_zero, List.drop_zero]
          by_cases q : m ≤ (as.map D.str).length
          · rw [Nat.min_eq_left q]
          · rw [Nat.min_eq_right (by omega), List.take_of_length_le (Nat.le_refl _), List.take_of_length_le (by omega)]
        rw [this, List.map_take]
      have v : evE wds NW_ (R (n + 4)) (.bi .tuple [(.sl (.lc [11] (.n 11) (.call 29 [(.v 0), (.bi .len [(.v 8)])]) [] (.ix (.v 8) (.v 11))) (.c .non) (.ix (.v 5) (.v 7)))]) (envF s1 s2 S s4 (some (b5, .dic mK mV)) (some (false, .str x)) (some (false, .str k)) (some (true, .lst ((nms S).map .str))) (some (false, .tup (as1.map .str)))) u' = .ok (.tup ((as.take m).map .str)) u6 := by
        have v1 : evE wds NW_ (R (n + 4)) (.sl (.lc [11] (.n 11) (.call 29 [(.v 0), (.bi .len [(.v 8)])]) [] (.ix (.v 8) (.v 11))) (.c .non) (.ix (.v 5) (.v 7))) (envF s1 s2 S s4 (some (b5, .dic mK mV)) (some (false, .str x)) (some (false, .str k)) (some (true, .lst ((nms S).map .str))) (some (false, .tup (as1.map .str)))) u' = .ok (.lst ((as.take m).map .str)) u6 := by
          rw [evE, v0]
          simp [Re.bind, evE, partE, isNonC, envF, im, sl, lift]
        rw [evE, evL_one v1]
        rfl
      refine ⟨as.take m, u6, ?_, fun a ha => pas a (List.mem_of_mem_take ha)⟩
      have fl : D.flat (.tup ((as.take m).map .str)) = true := flats_str
      have c : evE wds NW_ (R (n + 4)) (.cmp .Gt (.call 22 [(.v 0), (.c (.int 3))]) (.c (.int 0))) (envF s1 s2 S s4 (some (b5, .dic mK mV)) (some (false, .str x)) (some (false, .str k)) (some (true, .lst ((nms S).map .str))) (some (false, .tup (as1.map .str)))) u3 = .ok (.bl true) u' := by
        simp [evE, evL, Re.bind, envF, e, lift, gtI, hz]
      rw [evS, c]
      simp only [ofRe]
      exact evSs_one ((set_flat v fl rfl).trans rfl)
    · refine ⟨as1, u', ?_, ha1⟩
      have c : evE wds NW_ (R (n + 4)) (.cmp .Gt (.call 22 [(.v 0), (.c (.int 3))]) (.c (.int 0))) (envF s1 s2 S s4 (some (b5, .dic mK mV)) (some (false, .str x)) (some (false, .str k)) (some (true, .lst ((nms S).map .str))) (some (false, .tup (as1.map .str)))) u3 = .ok (.bl false) u' := by
        simp [evE, evL, Re.bind, envF, e, lift, gtI, hz]
      rw [evS, c]
      simp only [ofRe]
      exact evSs_nil
  -- is the step laid
  have cs : evE wds NW_ (R (n + 4)) (.bi .sum [(.lc [10] (.n 10) (.v 3) [] (.call 26 [(.v 10)]))]) (envF s1 s2 S s4 (some (b5, .dic mK mV)) (some (false, .str x)) (some (false, .str k)) (some (true, .lst ((nms S).map .str))) (some (false, .tup (as2.map .str)))) u4 = .ok (.int (nums S)) u4 := by
    have am : allI (S.map fun s => D.int (num s)) = some (S.map num) := by
      have e : (S.map fun s => D.int (num s)) = (S.map num).map D.int := by rw [List.map_map]; rfl
      rw [e, allI_int]
    have v0 : evE wds NW_ (R (n + 4)) (.lc [10] (.n 10) (.v 3) [] (.call 26 [(.v 10)])) (envF s1 s2 S s4 (some (b5, .dic mK mV)) (some (false, .str x)) (some (false, .str k)) (some (true, .lst ((nms S).map .str))) (some (false, .tup (as2.map .str)))) u4 = .ok (.lst (S.map fun s => .int (num s))) u4 := by
      simp only [evE, Re.bind, envF, List.getElem?_cons_succ, List.getElem?_cons_zero, D.items]
      rw [lc_mapG (g := fun s : Stp => .int (num s)) fun s hs => ?_]
      · simp [noExc, big, lb]
      · have c26 : R (n + 4) 26 [stD s] u4 = .ok (.int (num s)) u4 := free_ok (n := n + 3) (F.so hs)
        simp only [R] at c26
        simp [Tg.put, wipeE, evB, evE, evL, Re.bind, c26]
    rw [evE, evL_one v0]
    simp [Re.bind, biV, am, lift, nums]
  have so_ol : SO "on line" := by decide +kernel
  have c : evE wds NW_ (R (n + 4)) (.bop .And [(.cmp .Eq (.bi .len [(.v 9)]) (.ix (.v 5) (.v 7))), (.bop .Or [(.cmp .NotEq (.v 7) (.c (.str (PySem.Str.ofString "on line")))), (.cmp .Lt (.bi .sum [(.lc [10] (.n 10) (.v 3) [] (.call 26 [(.v 10)]))]) (.c (.int 3)))])]) (envF s1 s2 S s4 (some (b5, .dic mK mV)) (some (false, .str x)) (some (false, .str k)) (some (true, .lst ((nms S).map .str))) (some (false, .tup (as2.map .str)))) u4 = .ok (.bl (decide (as2.length = m) && (!decide (k = "on line") || decide (nums S < 3)))) u4 := by
    have e1 : evE wds NW_ (R (n + 4)) (.cmp .Eq (.bi .len [(.v 9)]) (.ix (.v 5) (.v 7))) (envF s1 s2 S s4 (some (b5, .dic mK mV)) (some (false, .str x)) (some (false, .str k)) (some (true, .lst ((nms S).map .str))) (some (false, .tup (as2.map .str)))) u4 = .ok (.bl (decide (as2.length = m))) u4 := by
      have b : ((as2.length : Int) == (m : Int)) = decide (as2.length = m) := by
        by_cases q : as2.length = m
        · simp [q]
        · have : ¬ ((as2.length : Int) = (m : Int)) := by omega
          simp [q]
          omega
      simp [evE, evL, Re.bind, envF, biV, lift, im, eq_I, b]
    have e2 : evE wds NW_ (R (n + 4)) (.cmp .NotEq (.v 7) (.c (.str (PySem.Str.ofString "on line")))) (envF s1 s2 S s4 (some (b5, .dic mK mV)) (some (false, .str x)) (some (false, .str k)) (some (true, .lst ((nms S).map .str))) (some (false, .tup (as2.map .str)))) u4 = .ok (.bl (!decide (k = "on line"))) u4 := by
      simp [evE, Re.bind, envF, lift, ne_S sok so_ol]
    have e3 : evE wds NW_ (R (n + 4)) (.cmp .Lt (.bi .sum [(.lc [10] (.n 10) (.v 3) [] (.call 26 [(.v 10)]))]) (.c (.int 3))) (envF s1 s2 S s4 (some (b5, .dic mK mV)) (some (false, .str x)) (some (false, .str k)) (some (true, .lst ((nms S).map .str))) (some (false, .tup (as2.map .str)))) u4 = .ok (.bl (decide (nums S < 3))) u4 := by
      rw [evE, cs]
      simp [Re.bind, evE, lift, ltI]
    rw [evE, evB, e1]
    cases decide (as2.length = m) with
    | false => rfl
    | true =>
      simp only [Re.bind]
      rw [evB, evE, evB, e2]
      cases decide (k = "on line") with
      | false => rfl
      | true =>
        simp only [Re.bind, Bool.not_true]
        rw [evB, e3]
        cases decide (nums S < 3) <;> rfl
  have tp : (Tg.n 6).put (.str x) (envF s1 s2 S s4 (some (b5, .dic mK mV)) s6 s7 s8 s9) = some (envF s1 s2 S s4 (some (b5, .dic mK mV)) (some (false, .str x)) s7 s8 s9) := by simp [Tg.put, envF]
  cases hc : (decide (as2.length = m) && (!decide (k = "on line") || decide (nums S < 3))) with
  | false =>
    rw [hc] at c
    refine ⟨S, some (false, .str k), some (true, .lst ((nms S).map .str)), some (false, .tup (as2.map .str)), u4, ?_, h, .inl rfl⟩
    have q5 : evS wds NW_ (R (n + 4)) (.ite (.bop .And [(.cmp .Eq (.bi .len [(.v 9)]) (.ix (.v 5) (.v 7))), (.bop .Or [(.cmp .NotEq (.v 7) (.c (.str (PySem.Str.ofString "on line")))), (.cmp .Lt (.bi .sum [(.lc [10] (.n 10) (.v 3) [] (.call 26 [(.v 10)]))]) (.c (.int 3)))])]) [(.app 3 (.tup [(.v 6), (.v 7), (.v 9)]))] []) (envF s1 s2 S s4 (some (b5, .dic mK mV)) (some (false, .str x)) (some (false, .str k)) (some (true, .lst ((nms S).map .str))) (some (false, .tup (as2.map .str)))) u4 = .next (envF s1 s2 S s4 (some (b5, .dic mK mV)) (some (false, .str x)) (some (false, .str k)) (some (true, .lst ((nms S).map .str))) (some (false, .tup (as2.map .str)))) u4 := by
      rw [evS, c]
      simp only [ofRe]
      exact evSs_nil
    exact turn_of tp ((evSs_next q1).trans ((evSs_next q2).trans ((evSs_next q3).trans ((evSs_next q4).trans (evSs_one q5)))))
  | true =>
    rw [hc] at c
    simp only [Bool.and_eq_true, Bool.or_eq_true, Bool.not_eq_true', decide_eq_true_eq, decide_eq_false_iff_not] at hc
    obtain ⟨hl2, hn⟩ := hc
    let s : Stp := ⟨x, k, as2.map .str⟩
    have ns : num s ≤ 1 ∧ (k ≠ "on line" → num s = 0) := by
      rw [num_def]
      show (if k = "free" then (2 : Int) else if k = "on line" ∨ k = "on ring" then 1 else 0) ≤ 1 ∧ (k ≠ "on line" → (if k = "free" then (2 : Int) else if k = "on line" ∨ k = "on ring" then 1 else 0) = 0)
      rw [if_neg kf]
      refine ⟨?_, fun q => if_neg fun z => z.elim q kr⟩
      split <;> decide
    have n3 := h.n3
    have dr : Dr (S ++ [s]) := by
      refine ⟨good_snoc h.g hx (by simpa using hxn) (.kd m hm as2 rfl hl2 fun a ha => by simpa using ha2 a ha), ?_, ?_, by simp; omega⟩
      · rw [nums_app, nums_one]
        rcases hn with q | q
        · have := ns.2 q
          omega
        · have := ns.1
          omega
      · obtain ⟨a, b, c', T, e, sm⟩ := h.pre
        exact ⟨a, b, c', T ++ [s], by rw [e]; rfl, sm⟩
    refine ⟨S ++ [s], some (false, .str k), some (true, .lst ((nms S).map .str)), some (false, .tup (as2.map .str)), u4, ?_, dr, .inr ⟨s, rfl, rfl⟩⟩
    have q5 : evS wds NW_ (R (n + 4)) (.ite (.bop .And [(.cmp .Eq (.bi .len [(.v 9)]) (.ix (.v 5) (.v 7))), (.bop .Or [(.cmp .NotEq (.v 7) (.c (.str (PySem.Str.ofString "on line")))), (.cmp .Lt (.bi .sum [(.lc [10] (.n 10) (.v 3) [] (.call 26 [(.v 10)]))]) (.c (.int 3)))])]) [(.app 3 (.tup [(.v 6), (.v 7), (.v 9)]))] []) (envF s1 s2 S s4 (some (b5, .dic mK mV)) (some (false, .str x)) (some (false, .str k)) (some (true, .lst ((nms S).map .str))) (some (false, .tup (as2.map .str)))) u4 = .next (envF s1 s2 (S ++ [s]) s4 (some (b5, .dic mK mV)) (some (false, .str x)) (some (false, .str k)) (some (true, .lst ((nms S).map .str))) (some (false, .tup (as2.map .str)))) u4 := by
      rw [evS, c]
      simp only [ofRe]
      refine evSs_one ?_
      have fl : D.flats (as2.map .str) = true := flats_str
      have lb2 : S.length < 16777216 := by omega
      simp [evS, evE, evL, Re.bind, ofRe, envF, D.flat, D.flats, fl, big, lb2, stD, s]
    exact turn_of tp ((evSs_next q1).trans ((evSs_next q2).trans ((evSs_next q3).trans ((evSs_next q4).trans (evSs_one q5)))))
end
end K09

/-! k09, the plain law: the drawn figures. -/
namespace K09
open Ev PySem
section
variable {n : Nat} {u : Cup}
theorem af_loop {s1 s2 s4 : Sl} {b5 : Bool} : ∀ {xs : List Str} {S : List Stp} {u : Cup} {s6 s7 s8 s9 : Sl}, Dr S → S.length + xs.length ≤ 6 → xs.Nodup → (∀ x ∈ xs, x ∈ QW ∧ x ∉ nms S) →
    ∃ S' t6 t7 t8 t9 u', forLoop (turnS wds NW_ (R (n + 4)) (.n 6) afB) (xs.map .str) (envF s1 s2 S s4 (some (b5, .dic mK mV)) s6 s7 s8 s9) u = .next (envF s1 s2 S' s4 (some (b5, .dic mK mV)) t6 t7 t8 t9) u' ∧ Dr S'
  | [], S, u, s6, s7, s8, s9, h, _, _, _ => ⟨S, s6, s7, s8, s9, u, rfl, h⟩
  | x :: xs, S, u, s6, s7, s8, s9, h, hl, nd, hx => by
    rw [List.length_cons] at hl
    rw [List.nodup_cons] at nd
    obtain ⟨x1, x2⟩ := hx x List.mem_cons_self
    obtain ⟨S1, t7, t8, t9, u1, e, h1, hs⟩ := af_turn (n := n) (u := u) h (by omega) x1 x2 (s1 := s1) (s2 := s2) (s4 := s4) (s6 := s6) (s7 := s7) (s8 := s8) (s9 := s9) (b5 := b5)
    have h2 : S1.length + xs.length ≤ 6 ∧ ∀ y ∈ xs, y ∈ QW ∧ y ∉ nms S1 := by
      rcases hs with rfl | ⟨s, rfl, es⟩
      · exact ⟨by omega, fun y hy => hx y (List.mem_cons_of_mem _ hy)⟩
      · refine ⟨by simp; omega, fun y hy => ⟨(hx y (List.mem_cons_of_mem _ hy)).1, fun q => ?_⟩⟩
        rw [nms_snoc] at q
        rcases List.mem_append.mp q with q | q
        · exact (hx y (List.mem_cons_of_mem _ hy)).2 q
        · rw [List.mem_singleton.mp q, es] at hy
          exact nd.1 hy
    obtain ⟨S', a6, a7, a8, a9, u', e2, h'⟩ := af_loop (s1 := s1) (s2 := s2) (s4 := s4) (b5 := b5) (xs := xs) (S := S1) (u := u1) (s6 := some (false, .str x)) (s7 := t7) (s8 := t8) (s9 := t9) h1 h2.1 nd.2 h2.2
    exact ⟨S', a6, a7, a8, a9, u', by rw [List.map_cons, forLoop, e]; exact e2, h'⟩
/-! ### bounds -/
theorem wsum_le {A : List Stp} {β : Nat → Int} {K : Int} (hK : 0 ≤ K) : ∀ {l : List (Str × Int)}, (∀ q ∈ l, 0 ≤ q.2 ∧ q.2 ≤ 3 ∧ β (pos A q.1) ≤ K) → wsum A β l ≤ 3 * K * l.length
  | [], _ => by simp [wsum]
  | (a, m) :: l, h => by
    obtain ⟨h1, h2, h3⟩ := h (a, m) List.mem_cons_self
    have ih := wsum_le hK (l := l) fun q hq => h q (List.mem_cons_of_mem _ hq)
    have k1 : m * β (pos A a) ≤ m * K := Int.mul_le_mul_of_nonneg_left h3 h1
    have k2 : m * K ≤ 3 * K := Int.mul_le_mul_of_nonneg_right h2 hK
    have k3 : (3 * K) * ((l.length + 1 : Nat) : Int) = 3 * K * (l.length : Int) + 3 * K := by
      rw [Int.natCast_add, Int.mul_add]
      simp
    rw [wsum, List.length_cons, k3]
    omega
def βG (i : Nat) : Int := 16 ^ (i + 1)
theorem grow_any {S : List Stp} (h : Fig S) (l6 : S.length ≤ 6) : Grow S βG := by
  intro A s B hS
  have lA : A.length < 6 := by rw [hS] at l6; simp at l6; omega
  have hs : S[A.length]? = some s := by rw [hS]; simp
  have ok := h.at hs
  rw [show S.take A.length = A by rw [hS]; simp] at ok
  have mono : ∀ i j : Nat, i ≤ j → (16 : Int) ^ i ≤ 16 ^ j := fun i j hij => by
    have e : (16 : Int) ^ j = 16 ^ i * 16 ^ (j - i) := by rw [← Int.pow_add, Nat.add_sub_cancel' hij]
    have p1 : (0 : Int) < 16 ^ i := Int.pow_pos (by decide)
    have p2 : (0 : Int) < 16 ^ (j - i) := Int.pow_pos (by decide)
    have k := Int.mul_le_mul_of_nonneg_left (show (1 : Int) ≤ 16 ^ (j - i) by omega) (Int.le_of_lt p1)
    rw [e]
    omega
  have p0 : (0 : Int) < 16 ^ A.length := Int.pow_pos (by decide)
  have w := wsum_le (A := A) (β := βG) (K := 16 ^ A.length) (Int.le_of_lt p0) (l := (depsOf s).zip (oft s)) fun q hq => by
    obtain ⟨z1, z2⟩ := List.of_mem_zip (show (q.1, q.2) ∈ _ from hq)
    exact ⟨(oft_mem _ z2).1, (oft_mem _ z2).2, mono _ _ (pos_len (deps_mem ok _ z1))⟩
  have l4 : ((depsOf s).zip (oft s)).length ≤ 4 := by
    rw [List.length_zip]
    have := deps_len ok
    omega
  have k := Int.mul_le_mul_of_nonneg_left (show (((depsOf s).zip (oft s)).length : Int) ≤ 4 by omega) (show 0 ≤ 3 * (16 : Int) ^ A.length by omega)
  have e : βG A.length = 16 * 16 ^ A.length := by
    unfold βG
    rw [Int.pow_succ, Int.mul_comm]
  refine ⟨by rw [e]; omega, ?_⟩
  have := mono (A.length + 1) 6 (by omega)
  unfold βG
  have : (16 : Int) ^ 6 = 16777216 := by decide
  omega
def β3 (i : Nat) : Int := if i < 2 then 2 else 6
theorem grow_three {a b c : Stp} (h : Small a b c) : Grow [a, b, c] β3 := by
  intro A s B hS
  have pA : ∀ x : Str, (x = "A" ∨ x = "B") → pos [a, b] x < 2 := fun x hx => by
    have : x ∈ nms [a, b] := by
      simp only [nms, List.map_cons, List.map_nil, h.na, h.nb, List.mem_cons, List.not_mem_nil, or_false]
      exact hx
    simpa using pos_len this
  match A, hS with
  | [], hS =>
    simp only [List.nil_append, List.cons.injEq] at hS
    obtain ⟨rfl, _⟩ := hS
    rw [h.da]
    simp [wsum, β3]
  | [x], hS =>
    simp only [List.cons_append, List.nil_append, List.cons.injEq] at hS
    obtain ⟨_, rfl, _⟩ := hS
    rw [h.db]
    simp [wsum, β3]
  | [x, y], hS =>
    simp only [List.cons_append, List.nil_append, List.cons.injEq] at hS
    obtain ⟨rfl, rfl, rfl, _⟩ := hS
    have bA : β3 (pos [a, b] "A") = 2 := if_pos (pA _ (.inl rfl))
    have bB : β3 (pos [a, b] "B") = 2 := if_pos (pA _ (.inr rfl))
    rcases h.dc with q | ⟨q1, q2 | q2⟩
    · rw [q]
      simp [wsum, β3]
    · rw [q1, q2]
      have p1 := pA "A" (.inl rfl)
      have p2 := pA "B" (.inr rfl)
      simp [wsum, β3, p1, p2]
    · rw [q1, q2]
      have p1 := pA "A" (.inl rfl)
      have p2 := pA "B" (.inr rfl)
      simp [wsum, β3, p1, p2]
  | x :: y :: z :: A, hS =>
    simp only [List.cons_append, List.cons.injEq] at hS
    obtain ⟨_, _, _, e⟩ := hS
    simp at e
/-! ### the greatest bound -/
theorem fold_max {b : Int} : ∀ {l : List Int} {a : Int}, a ≤ b → (∀ x ∈ l, x ≤ b) → l.foldl max a ≤ b
  | [], a, ha, _ => ha
  | x :: l, a, ha, h => fold_max (l := l) (a := max a x) (by have := h x List.mem_cons_self; omega) fun y hy => h y (List.mem_cons_of_mem _ hy)
theorem max_T {l : List Int} {b : Int} (h0 : l ≠ []) (h : ∀ x ∈ l, x ≤ b) : ∃ m, biV .max [.tup (l.map .int)] = some (.int m) ∧ m ≤ b := by
  cases l with
  | nil => exact absurd rfl h0
  | cons a l =>
    refine ⟨l.foldl max a, ?_, fold_max (h a List.mem_cons_self) fun x hx => h x (List.mem_cons_of_mem _ hx)⟩
    simp only [biV, allI_int]
theorem max_L {l : List Int} {b : Int} (h0 : l ≠ []) (h : ∀ x ∈ l, x ≤ b) : ∃ m, biV .max [.lst (l.map .int)] = some (.int m) ∧ m ≤ b := by
  cases l with
  | nil => exact absurd rfl h0
  | cons a l =>
    refine ⟨l.foldl max a, ?_, fold_max (h a List.mem_cons_self) fun x hx => h x (List.mem_cons_of_mem _ hx)⟩
    simp only [biV, allI_int]
theorem bs_max {b : Int} : ∀ {bs : List (List Int)}, (∀ r ∈ bs, r ≠ [] ∧ ∀ x ∈ r, x ≤ b) → ∃ ms : List Int, (∀ (F : D → Cup → Re (Option D)) (u : Cup), (∀ r ∈ bs, ∀ m, biV .max [rowD r] = some (.int m) → F (rowD r) u = .ok (some (.int m)) u) → lcLoop F (bs.map rowD) u = .ok (ms.map .int) u) ∧ ms.length = bs.length ∧ ∀ m ∈ ms, m ≤ b
  | [], _ => ⟨[], fun F u _ => rfl, rfl, fun m hm => by cases hm⟩
  | r :: bs, h => by
    obtain ⟨ms, h1, h2, h3⟩ := bs_max (bs := bs) fun r' hr => h r' (List.mem_cons_of_mem _ hr)
    obtain ⟨m, e, hm⟩ := max_T (h r List.mem_cons_self).1 (h r List.mem_cons_self).2
    refine ⟨m :: ms, fun F u hF => ?_, by simp [h2], fun m' hm' => ?_⟩
    · simp only [List.map_cons, lcLoop, hF r List.mem_cons_self m e, Re.bind, h1 F u fun r' hr m' e' => hF r' (List.mem_cons_of_mem _ hr) m' e', optCons]
    · rcases List.mem_cons.mp hm' with rfl | hm'
      · exact hm
      · exact h3 m' hm'
theorem cond_ok {S : List Stp} (h : Fig S) {β : Nat → Int} (hg : Grow S β) {b : Int} (hb : ∀ i, β i ≤ b) {s1 s2 s4 s5 s6 s7 s8 s9 : Sl} :
    ∃ m : Int, evE wds NW_ (R (n + 2)) (.cmp .Gt (.bi .max [(.lc [11] (.n 11) (.call 27 [(.v 3)]) [] (.bi .max [(.v 11)]))]) (.c (.int 6))) (envF s1 s2 S s4 s5 s6 s7 s8 s9) u = .ok (.bl (decide (6 < m))) u ∧ m ≤ b := by
  obtain ⟨bs, e27, lb, hr⟩ := bounds_ok (n := n) (u := u) h hg
  obtain ⟨ms, h1, h2, h3⟩ := bs_max (b := b) (bs := bs) fun r hr2 => by
    obtain ⟨i, hi, rfl⟩ := List.getElem_of_mem hr2
    have row := hr i hi
    refine ⟨fun q => ?_, fun x hx => Int.le_trans (row.le x hx).2 (hb i)⟩
    have := row.l8
    rw [q] at this
    cases this
  have l1 := h.l1
  have l16 := h.l2
  obtain ⟨m, em, hm⟩ := max_L (l := ms) (b := b) (fun q => by rw [q] at h2; simp at h2; omega) h3
  refine ⟨m, ?_, hm⟩
  have src : evE wds NW_ (R (n + 2)) (.call 27 [(.v 3)]) (envF s1 s2 S s4 s5 s6 s7 s8 s9) u = .ok (.lst (bs.map rowD)) u := by
    simp only [evE, evL, Re.bind, envF, List.getElem?_cons_succ, List.getElem?_cons_zero]
    exact e27
  have v0 : evE wds NW_ (R (n + 2)) (.lc [11] (.n 11) (.call 27 [(.v 3)]) [] (.bi .max [(.v 11)])) (envF s1 s2 S s4 s5 s6 s7 s8 s9) u = .ok (.lst (ms.map .int)) u := by
    refine lc_val src rfl (by rw [List.length_map]; omega) (h1 _ u fun r hr2 m2 e2 => ?_)
    refine lcF_val (e1 := [some (false, .cup), s1, s2, some (true, .lst (S.map stD)), s4, s5, s6, s7, s8, s9, none, some (false, rowD r)]) (by simp [Tg.put, wipeE, envF]) ?_
    simp only [evE, evL, Re.bind, List.getElem?_cons_succ, List.getElem?_cons_zero, e2, lift]
  rw [evE, evE, evL_one v0]
  simp only [Re.bind, em, lift, evE, gtI]
theorem fig_take {S : List Stp} (h : Dr S) {j : Nat} (hj : 3 ≤ j) : Dr (S.take j) := by
  obtain ⟨a, b, c, T, e, sm⟩ := h.pre
  refine ⟨good_take h.g, by have := nums_le (S := S) (i := j); have := h.n3; omega, ⟨a, b, c, T.take (j - 3), ?_, sm⟩, by rw [List.length_take]; have := h.l6; omega⟩
  obtain ⟨k, rfl⟩ : ∃ k, j = k + 3 := ⟨j - 3, by omega⟩
  rw [e]
  simp
theorem cut_last {α : Type} {X : List α} : cutG X none (some (-1)) = X.take (X.length - 1) := by
  unfold cutG
  have e : HT.sIx X.length X.length (some (-1)) = X.length - 1 := by
    show (if (-1 : Int) < 0 then ((-1 : Int) + (X.length : Int)).toNat else min (-1 : Int).toNat X.length) = _
    rw [if_pos (by decide)]
    omega
  rw [HT.sIx_none, e]
  simp
theorem wl_ok {S : List Stp} (h : Dr S) {s1 s2 s4 s5 s6 s7 s8 s9 : Sl} :
    ∃ S', evS wds NW_ (R (n + 2)) (.while_ (.cmp .Gt (.bi .max [(.lc [11] (.n 11) (.call 27 [(.v 3)]) [] (.bi .max [(.v 11)]))]) (.c (.int 6))) [(.set 3 (.sl (.v 3) (.c .non) (.neg (.c (.int 1)))))]) (envF s1 s2 S s4 s5 s6 s7 s8 s9) u = .next (envF s1 s2 S' s4 s5 s6 s7 s8 s9) u ∧ Dr S' := by
  obtain ⟨env', u', ew, S', rfl, hu, h'⟩ := while_inv (c := fun env u => evE wds NW_ (R (n + 2)) (.cmp .Gt (.bi .max [(.lc [11] (.n 11) (.call 27 [(.v 3)]) [] (.bi .max [(.v 11)]))]) (.c (.int 6))) env u) (b := fun env u => evSs wds NW_ (R (n + 2)) [(.set 3 (.sl (.v 3) (.c .non) (.neg (.c (.int 1)))))] env u)
    (fun m env u1 => u1 = u ∧ ∃ S, env = envF s1 s2 S s4 s5 s6 s7 s8 s9 ∧ Dr S ∧ m = S.length)
    (fun env u1 => ∃ S, env = envF s1 s2 S s4 s5 s6 s7 s8 s9 ∧ u1 = u ∧ Dr S)
    (by
      rintro m env u1 ⟨rfl, S, rfl, h, rfl⟩
      have F := h.fig
      obtain ⟨a, b, c, T, e, sm⟩ := h.pre
      have l3 : 3 ≤ S.length := by rw [e]; simp
      by_cases q : S.length = 3
      · have eT : T = [] := by
          rw [e] at q
          simp at q
          exact q
        obtain ⟨m, ec, hm⟩ := cond_ok (n := n) (u := u1) F (β := β3) (by rw [e, eT]; exact grow_three sm) (b := 6) (fun i => by unfold β3; split <;> decide) (s1 := s1) (s2 := s2) (s4 := s4) (s5 := s5) (s6 := s6) (s7 := s7) (s8 := s8) (s9 := s9)
        refine .inl ⟨u1, ?_, S, rfl, rfl, h⟩
        rw [ec, decide_eq_false (by omega)]
      · have gb : ∀ i, min (βG i) 16777216 ≤ 16777216 := fun i => Int.min_le_right _ _
        have gg := grow_any F h.l6
        -- the same with bounds that are cut off
        have gg2 : Grow S (fun i => if i < 6 then βG i else 0) := by
          intro A s B hS
          have lA : A.length < 6 := by have := h.l6; rw [hS] at this; simp at this; omega
          obtain ⟨g1, g2⟩ := gg A s B hS
          have hs : S[A.length]? = some s := by rw [hS]; simp
          have ok := F.at hs
          rw [show S.take A.length = A by rw [hS]; simp] at ok
          have ws : ∀ l : List (Str × Int), (∀ q ∈ l, q.1 ∈ nms A) → wsum A (fun i => if i < 6 then βG i else 0) l = wsum A βG l := fun l hl => by
            induction l with
            | nil => rfl
            | cons q l ih =>
              obtain ⟨x, m⟩ := q
              have px : pos A x < 6 := Nat.lt_trans (pos_len (hl (x, m) List.mem_cons_self)) lA
              rw [wsum, wsum, ih fun q hq => hl q (List.mem_cons_of_mem _ hq)]
              simp only [if_pos px]
          rw [ws _ fun q hq => deps_mem ok _ (List.of_mem_zip (show (q.1, q.2) ∈ _ from hq)).1]
          simp only [if_pos lA]
          exact ⟨g1, g2⟩
        obtain ⟨m, ec, hm⟩ := cond_ok (n := n) (u := u1) F gg2 (b := 16777216) (fun i => by
          show (if i < 6 then βG i else 0) ≤ 16777216
          split
          · rename_i hi
            have : ∀ i, i < 6 → βG i ≤ 16777216 := by decide +kernel
            exact this i hi
          · decide) (s1 := s1) (s2 := s2) (s4 := s4) (s5 := s5) (s6 := s6) (s7 := s7) (s8 := s8) (s9 := s9)
        by_cases hm6 : 6 < m
        · refine .inr ⟨u1, envF s1 s2 (S.take (S.length - 1)) s4 s5 s6 s7 s8 s9, u1, (S.take (S.length - 1)).length, ?_, ?_, ⟨rfl, _, rfl, fig_take h (by omega), rfl⟩, by rw [List.length_take]; omega⟩
          · rw [ec, decide_eq_true hm6]
          · have v : evE wds NW_ (R (n + 2)) (.sl (.v 3) (.c .non) (.neg (.c (.int 1)))) (envF s1 s2 S s4 s5 s6 s7 s8 s9) u1 = .ok (.lst ((S.take (S.length - 1)).map stD)) u1 := by
              have cl := cut_last (X := S.map stD)
              rw [List.length_map] at cl
              simp [evE, Re.bind, envF, partE, isNonC, slV, lift]
              exact cl
            have fl : D.ownable (.lst ((S.take (S.length - 1)).map stD)) = true := own_map fun s hs => by
              have hs := List.mem_of_mem_take hs
              obtain ⟨i, hi, rfl⟩ := List.getElem_of_mem hs
              have ok := F.at (List.getElem?_eq_getElem hi)
              have : D.flats (S[i].ar) = true := by
                cases ok with
                | fx p q hp hq hk ha => rw [ha]; rfl
                | kd m hk as ha hl hm => rw [ha]; exact flats_str
              simp [stD, D.flat, D.flats, this]
            exact evSs_one ((set_fresh v rfl fl).trans rfl)
        · refine .inl ⟨u1, ?_, S, rfl, rfl, h⟩
          rw [ec, decide_eq_false hm6]) (k := 4096) (m := S.length) (env := envF s1 s2 S s4 s5 s6 s7 s8 s9) (u := u) ⟨rfl, S, rfl, h, rfl⟩ (by have := h.l6; omega)
  rw [hu] at ew
  exact ⟨S', by rw [evS]; exact ew, h'⟩
/-! ### the drawn figure -/
def fxL : List D := [.tup [fr (0, 1), fr (0, 1)], .tup [fr (1, 1), fr (0, 1)], .tup [fr (2, 1), fr (-1, 1)], .tup [fr (1, 2), fr (3, 1)]]
theorem fx_mem {d : D} (h : d ∈ fxL) : ∃ p q, Near p ∧ Near q ∧ d = .tup [fr p, fr q] := by
  simp only [fxL, List.mem_cons, List.not_mem_nil, or_false] at h
  rcases h with rfl | rfl | rfl | rfl
  · exact ⟨_, _, ⟨by decide, by decide, by decide, by decide, by decide⟩, ⟨by decide, by decide, by decide, by decide, by decide⟩, rfl⟩
  · exact ⟨_, _, ⟨by decide, by decide, by decide, by decide, by decide⟩, ⟨by decide, by decide, by decide, by decide, by decide⟩, rfl⟩
  · exact ⟨_, _, ⟨by decide, by decide, by decide, by decide, by decide⟩, ⟨by decide, by decide, by decide, by decide, by decide⟩, rfl⟩
  · exact ⟨_, _, ⟨by decide, by decide, by decide, by decide, by decide⟩, ⟨by decide, by decide, by decide, by decide, by decide⟩, rfl⟩
def fre (x : Str) : Stp := ⟨x, "free", []⟩
def fxd (x : Str) (p q : Int × Int) : Stp := ⟨x, "fixed", [fr p, fr q]⟩
def lin (x k a b : Str) : Stp := ⟨x, k, [.str a, .str b]⟩
theorem fixed_draw {env : En} {x : Str} (h0 : env[0]? = some (some (false, .cup))) (h1 : env[1]? = some (some (true, .lst fxL))) : ∃ p q u', Near p ∧ Near q ∧ evE wds NW_ (R (n + 2)) (.tup [(.c (.str x)), (.c (.str (PySem.Str.ofString "fixed"))), (.call 23 [(.v 0), (.v 1)])]) env u = .ok (stD (fxd x p q)) u' := by
  obtain ⟨d, u', e, hd⟩ := some_ok (n := n) (xs := fxL) (u := u) (by decide) (by decide)
  obtain ⟨p, q, hp, hq, rfl⟩ := fx_mem hd
  refine ⟨p, q, u', hp, hq, ?_⟩
  simp only [R] at e
  simp [evE, evL, Re.bind, h0, h1, e, big, stD, fxd]
/-- the first and the second step -/
def OneOf (x : Str) (s : Stp) : Prop := s = fre x ∨ ∃ p q, Near p ∧ Near q ∧ s = fxd x p q
theorem OneOf.nm {x : Str} {s : Stp} (h : OneOf x s) : s.nm = x := by
  rcases h with rfl | ⟨p, q, _, _, rfl⟩ <;> rfl
theorem OneOf.deps {x : Str} {s : Stp} (h : OneOf x s) : depsOf s = [] := by
  rcases h with rfl | ⟨p, q, _, _, rfl⟩ <;> rfl
theorem OneOf.ok {x : Str} {s : Stp} (h : OneOf x s) {ns : List Str} : OkS ns s := by
  rcases h with rfl | ⟨p, q, hp, hq, rfl⟩
  · exact .kd 0 (by simp [KDS, fre]) [] rfl rfl (fun a ha => by cases ha)
  · exact .fx p q hp hq rfl rfl
theorem OneOf.flat {x : Str} {s : Stp} (h : OneOf x s) : (stD s).flat = true := by
  rcases h with rfl | ⟨p, q, hp, hq, rfl⟩ <;> rfl
theorem num_fre {x : Str} : num (fre x) = 2 := by kernel_rfl
theorem num_fxd {x : Str} {p q : Int × Int} : num (fxd x p q) = 0 := by kernel_rfl
theorem num_lin {x k a b : Str} (h : k = "on line" ∨ k = "on ring") : num (lin x k a b) = 1 := by
  rcases h with rfl | rfl <;> kernel_rfl
/-- the third step -/
def Third (z : Int) (s : Stp) : Prop := s = lin "C" "on line" "A" "B" ∨ s = lin "C" "on ring" "A" "B" ∨ (∃ p q, Near p ∧ Near q ∧ s = fxd "C" p q) ∨ (z = 1 ∧ s = fre "C") ∨ (z ≠ 1 ∧ s = lin "C" "on line" "B" "A")
theorem three_dr {z : Int} {a b c : Stp} (ha : (z = 0 ∧ a = fre "A") ∨ (z ≠ 0 ∧ ∃ p q, Near p ∧ Near q ∧ a = fxd "A" p q)) (hb : (z < 2 ∧ ∃ p q, Near p ∧ Near q ∧ b = fxd "B" p q) ∨ (¬ z < 2 ∧ b = fre "B")) (hc : Third z c) : Dr [a, b, c] := by
  have oa : OneOf "A" a := ha.elim (fun h => .inl h.2) fun h => .inr h.2
  have ob : OneOf "B" b := hb.elim (fun h => .inr h.2) fun h => .inl h.2
  have n1 := oa.nm
  have n2 := ob.nm
  have n3 : c.nm = "C" := by
    rcases hc with rfl | rfl | ⟨_, _, _, _, rfl⟩ | ⟨_, rfl⟩ | ⟨_, rfl⟩ <;> rfl
  have lk : ∀ (k : Str) (x y : Str), k = "on line" ∨ k = "on ring" → x ∈ [("A" : Str), "B"] → y ∈ [("A" : Str), "B"] → OkS [("A" : Str), "B"] (lin "C" k x y) := fun k x y hk hx hy => by
    refine .kd 2 ?_ [x, y] rfl rfl fun a h => ?_
    · rcases hk with rfl | rfl <;> simp [lin, KDS]
    · simp only [List.mem_cons, List.not_mem_nil, or_false] at h
      rcases h with rfl | rfl
      · exact hx
      · exact hy
  have oc : OkS [("A" : Str), "B"] c := by
    rcases hc with rfl | rfl | ⟨p, q, hp, hq, rfl⟩ | ⟨_, rfl⟩ | ⟨_, rfl⟩
    · exact lk _ _ _ (.inl rfl) (by simp) (by simp)
    · exact lk _ _ _ (.inr rfl) (by simp) (by simp)
    · exact .fx p q hp hq rfl rfl
    · exact .kd 0 (by simp [KDS, fre]) [] rfl rfl (fun a ha => by cases ha)
    · exact lk _ _ _ (.inl rfl) (by simp) (by simp)
  refine ⟨⟨?_, by simp, oa.ok, ?_, ?_, ob.ok, ?_, ?_, ?_, trivial⟩, ?_, ⟨a, b, c, [], rfl, n1, n2, oa.deps, ob.deps, ?_⟩, by simp⟩
  · rw [n1]; decide
  · rw [n2]; decide
  · rw [n1, n2]; decide
  · rw [n3]; decide
  · rw [n1, n2, n3]; decide
  · rw [n1, n2]; exact oc
  · have e : nums [a, b, c] = num a + (num b + num c) := by simp [nums]
    rw [e]
    have c1 : num c ≤ 1 ∨ (z = 1 ∧ num c = 2) := by
      rcases hc with rfl | rfl | ⟨_, _, _, _, rfl⟩ | ⟨q, rfl⟩ | ⟨_, rfl⟩
      · exact .inl (by rw [num_lin (.inl rfl)]; decide)
      · exact .inl (by rw [num_lin (.inr rfl)]; decide)
      · exact .inl (by rw [num_fxd]; decide)
      · exact .inr ⟨q, num_fre⟩
      · exact .inl (by rw [num_lin (.inl rfl)]; decide)
    rcases ha with ⟨z0, rfl⟩ | ⟨z0, _, _, _, _, rfl⟩ <;> rcases hb with ⟨z2, _, _, _, _, rfl⟩ | ⟨z2, rfl⟩ <;> simp only [num_fre, num_fxd] <;> omega
  · rcases hc with rfl | rfl | ⟨_, _, _, _, rfl⟩ | ⟨_, rfl⟩ | ⟨_, rfl⟩
    · exact .inr ⟨rfl, .inl rfl⟩
    · exact .inr ⟨rfl, .inl rfl⟩
    · exact .inl rfl
    · exact .inl rfl
    · exact .inr ⟨rfl, .inr rfl⟩
end
end K09

/-! k09, the plain law, joined. -/
namespace K09
open Ev PySem
section
variable {n : Nat} {u : Cup}
abbrev AB : List Sx := d_law_any_figure.body
abbrev stx (i : Nat) : Sx := AB.getD i .pass
theorem any_ok : ∃ S u', R (n + 5) 28 [.cup] u = .ok (fgD S) u' ∧ Fig S := by
  -- the fixed points, the way
  have q0 : evS wds NW_ (R (n + 4)) (stx 0) (Ev.start [.cup] 12) u = .next [some (false, .cup), some (true, .lst fxL), none, none, none, none, none, none, none, none, none, none] u := by kernel_rfl
  obtain ⟨z, u1, ez, z0, z3⟩ := roll_sm (n := n + 3) (m := 3) (u := u) (by decide) (by decide)
  have q1 : evS wds NW_ (R (n + 4)) (stx 1) [some (false, .cup), some (true, .lst fxL), none, none, none, none, none, none, none, none, none, none] u = .next [some (false, .cup), some (true, .lst fxL), some (false, .int z), none, none, none, none, none, none, none, none, none] u1 := by
    refine (set_flat (d := .int z) (u1 := u1) ?_ rfl rfl).trans rfl
    simp only [evE, evL, Re.bind, List.getElem?_cons_zero]
    exact ez
  -- the first step
  obtain ⟨a, u2, ha, q2⟩ : ∃ (a : Stp) (u' : Cup), ((z = 0 ∧ a = fre "A") ∨ (z ≠ 0 ∧ ∃ p q, Near p ∧ Near q ∧ a = fxd "A" p q)) ∧ evS wds NW_ (R (n + 4)) (stx 2) [some (false, .cup), some (true, .lst fxL), some (false, .int z), none, none, none, none, none, none, none, none, none] u1 = .next (envF (some (true, .lst fxL)) (some (false, .int z)) [a] none none none none none none) u' := by
    have c : evE wds NW_ (R (n + 4)) (.cmp .Eq (.v 2) (.c (.int 0))) [some (false, .cup), some (true, .lst fxL), some (false, .int z), none, none, none, none, none, none, none, none, none] u1 = .ok (.bl (z == 0)) u1 := by
      simp [evE, Re.bind, lift, eq_I]
    by_cases hz : z = 0
    · refine ⟨fre "A", u1, .inl ⟨hz, rfl⟩, ?_⟩
      have hb : (z == 0) = true := by simp [hz]
      rw [hb] at c
      have v : evE wds NW_ (R (n + 4)) (.ite (.cmp .Eq (.v 2) (.c (.int 0))) (.tup [(.c (.str (PySem.Str.ofString "A"))), (.c (.str (PySem.Str.ofString "free"))), (.tup [])]) (.tup [(.c (.str (PySem.Str.ofString "A"))), (.c (.str (PySem.Str.ofString "fixed"))), (.call 23 [(.v 0), (.v 1)])])) [some (false, .cup), some (true, .lst fxL), some (false, .int z), none, none, none, none, none, none, none, none, none] u1 = .ok (stD (fre "A")) u1 := by
        rw [evE, c]
        simp [Re.bind, evE, evL, big, stD, fre]
      refine (set_fresh (d := .lst [stD (fre "A")]) (u1 := u1) ?_ rfl rfl).trans rfl
      rw [evE, evL_one v]
      rfl
    · obtain ⟨p, q, u', hp, hq, e⟩ := fixed_draw (n := n + 2) (u := u1) (env := [some (false, .cup), some (true, .lst fxL), some (false, .int z), none, none, none, none, none, none, none, none, none]) (x := "A") rfl rfl
      refine ⟨fxd "A" p q, u', .inr ⟨hz, p, q, hp, hq, rfl⟩, ?_⟩
      have hb : (z == 0) = false := by simp [hz]
      rw [hb] at c
      have v : evE wds NW_ (R (n + 4)) (.ite (.cmp .Eq (.v 2) (.c (.int 0))) (.tup [(.c (.str (PySem.Str.ofString "A"))), (.c (.str (PySem.Str.ofString "free"))), (.tup [])]) (.tup [(.c (.str (PySem.Str.ofString "A"))), (.c (.str (PySem.Str.ofString "fixed"))), (.call 23 [(.v 0), (.v 1)])])) [some (false, .cup), some (true, .lst fxL), some (false, .int z), none, none, none, none, none, none, none, none, none] u1 = .ok (stD (fxd "A" p q)) u' := by
        rw [evE, c]
        simp only [Re.bind]
        exact e
      refine (set_fresh (d := .lst [stD (fxd "A" p q)]) (u1 := u') ?_ rfl rfl).trans rfl
      rw [evE, evL_one v]
      rfl
  have fa : (stD a).flat = true := by
    rcases ha with ⟨_, rfl⟩ | ⟨_, p, q, _, _, rfl⟩ <;> rfl
  -- the second step
  obtain ⟨b, u3, hb, q3⟩ : ∃ (b : Stp) (u' : Cup), ((z < 2 ∧ ∃ p q, Near p ∧ Near q ∧ b = fxd "B" p q) ∨ (¬ z < 2 ∧ b = fre "B")) ∧ evS wds NW_ (R (n + 4)) (stx 3) (envF (some (true, .lst fxL)) (some (false, .int z)) [a] none none none none none none) u2 = .next (envF (some (true, .lst fxL)) (some (false, .int z)) [a, b] none none none none none none) u' := by
    have c : evE wds NW_ (R (n + 4)) (.cmp .Lt (.v 2) (.c (.int 2))) (envF (some (true, .lst fxL)) (some (false, .int z)) [a] none none none none none none) u2 = .ok (.bl (decide (z < 2))) u2 := by
      simp [evE, Re.bind, lift, ltI, envF]
    have app : ∀ (b : Stp) (u' : Cup), (stD b).flat = true → evE wds NW_ (R (n + 4)) (.ite (.cmp .Lt (.v 2) (.c (.int 2))) (.tup [(.c (.str (PySem.Str.ofString "B"))), (.c (.str (PySem.Str.ofString "fixed"))), (.call 23 [(.v 0), (.v 1)])]) (.tup [(.c (.str (PySem.Str.ofString "B"))), (.c (.str (PySem.Str.ofString "free"))), (.tup [])])) (envF (some (true, .lst fxL)) (some (false, .int z)) [a] none none none none none none) u2 = .ok (stD b) u' → evS wds NW_ (R (n + 4)) (stx 3) (envF (some (true, .lst fxL)) (some (false, .int z)) [a] none none none none none none) u2 = .next (envF (some (true, .lst fxL)) (some (false, .int z)) [a, b] none none none none none none) u' := fun b u' fb v => by
      show evS wds NW_ (R (n + 4)) (.app 3 _) _ _ = _
      have g : (envF (some (true, .lst fxL)) (some (false, .int z)) [a] none none none none none none)[3]? = some (some (true, .lst [stD a])) := rfl
      rw [evS, g]
      simp only []
      rw [v]
      simp only [ofRe, fb]
      rfl
    by_cases hz : z < 2
    · obtain ⟨p, q, u', hp, hq, e⟩ := fixed_draw (n := n + 2) (u := u2) (env := envF (some (true, .lst fxL)) (some (false, .int z)) [a] none none none none none none) (x := "B") rfl rfl
      refine ⟨fxd "B" p q, u', .inl ⟨hz, p, q, hp, hq, rfl⟩, app _ _ rfl ?_⟩
      rw [decide_eq_true hz] at c
      rw [evE, c]
      simp only [Re.bind]
      exact e
    · refine ⟨fre "B", u2, .inr ⟨hz, rfl⟩, app _ _ rfl ?_⟩
      rw [decide_eq_false hz] at c
      rw [evE, c]
      simp [Re.bind, evE, evL, big, stD, fre]
  have fb : (stD b).flat = true := by
    rcases hb with ⟨_, p, q, _, _, rfl⟩ | ⟨_, rfl⟩ <;> rfl
  -- what the third one may be
  obtain ⟨p, q, u4, hp, hq, q4⟩ : ∃ (p q : Int × Int) (u' : Cup), Near p ∧ Near q ∧ evS wds NW_ (R (n + 4)) (stx 4) (envF (some (true, .lst fxL)) (some (false, .int z)) [a, b] none none none none none none) u3 = .next (envF (some (true, .lst fxL)) (some (false, .int z)) [a, b] (some (true, .lst [stD (lin "C" "on line" "A" "B"), stD (lin "C" "on ring" "A" "B"), stD (fxd "C" p q)])) none none none none none) u' := by
    obtain ⟨p, q, u', hp, hq, e⟩ := fixed_draw (n := n + 2) (u := u3) (env := envF (some (true, .lst fxL)) (some (false, .int z)) [a, b] none none none none none none) (x := "C") rfl rfl
    refine ⟨p, q, u', hp, hq, ?_⟩
    refine (set_fresh (d := .lst [stD (lin "C" "on line" "A" "B"), stD (lin "C" "on ring" "A" "B"), stD (fxd "C" p q)]) (u1 := u') ?_ rfl rfl).trans rfl
    have l1 : ∀ k : Str, evE wds NW_ (R (n + 4)) (.tup [(.c (.str (PySem.Str.ofString "C"))), (.c (.str k)), (.tup [(.c (.str (PySem.Str.ofString "A"))), (.c (.str (PySem.Str.ofString "B")))])]) (envF (some (true, .lst fxL)) (some (false, .int z)) [a, b] none none none none none none) u3 = .ok (stD (lin "C" k "A" "B")) u3 := fun k => by
      simp [evE, evL, Re.bind, big, stD, lin]
    simp only [R] at e l1
    rw [evE, evL, l1]
    simp only [Re.bind]
    rw [evL, l1]
    simp only [Re.bind]
    rw [evL_one e]
    rfl
  -- the third step
  obtain ⟨c, u5, hc, q5⟩ : ∃ (c : Stp) (u' : Cup), Third z c ∧ evS wds NW_ (R (n + 4)) (stx 5) (envF (some (true, .lst fxL)) (some (false, .int z)) [a, b] (some (true, .lst [stD (lin "C" "on line" "A" "B"), stD (lin "C" "on ring" "A" "B"), stD (fxd "C" p q)])) none none none none none) u4 = .next (envF (some (true, .lst fxL)) (some (false, .int z)) [a, b, c] (some (true, .lst [stD (lin "C" "on line" "A" "B"), stD (lin "C" "on ring" "A" "B"), stD (fxd "C" p q)])) none none none none none) u' := by
    obtain ⟨w, hw, ew⟩ : ∃ w : Stp, ((z = 1 ∧ w = fre "C") ∨ (z ≠ 1 ∧ w = lin "C" "on line" "B" "A")) ∧ evE wds NW_ (R (n + 4)) (.ite (.cmp .Eq (.v 2) (.c (.int 1))) (.tup [(.c (.str (PySem.Str.ofString "C"))), (.c (.str (PySem.Str.ofString "free"))), (.tup [])]) (.tup [(.c (.str (PySem.Str.ofString "C"))), (.c (.str (PySem.Str.ofString "on line"))), (.tup [(.c (.str (PySem.Str.ofString "B"))), (.c (.str (PySem.Str.ofString "A")))])])) (envF (some (true, .lst fxL)) (some (false, .int z)) [a, b] (some (true, .lst [stD (lin "C" "on line" "A" "B"), stD (lin "C" "on ring" "A" "B"), stD (fxd "C" p q)])) none none none none none) u4 = .ok (stD w) u4 := by
      by_cases hz : z = 1
      · refine ⟨fre "C", .inl ⟨hz, rfl⟩, ?_⟩
        simp [evE, evL, Re.bind, lift, eq_I, envF, hz, big, stD, fre]
      · refine ⟨lin "C" "on line" "B" "A", .inr ⟨hz, rfl⟩, ?_⟩
        have hb : (z == 1) = false := by simp [hz]
        simp [evE, evL, Re.bind, lift, eq_I, envF, hb, big, stD, lin]
    obtain ⟨d, u', ed, hd⟩ := some_ok (n := n + 2) (xs := [stD (lin "C" "on line" "A" "B"), stD (lin "C" "on ring" "A" "B"), stD (fxd "C" p q)] ++ [stD w]) (u := u4) (by simp) (by simp)
    have hd' : ∃ c : Stp, Third z c ∧ d = stD c := by
      simp only [List.mem_append, List.mem_cons, List.not_mem_nil, or_false] at hd
      rcases hd with (rfl | rfl | rfl) | rfl
      · exact ⟨_, .inl rfl, rfl⟩
      · exact ⟨_, .inr (.inl rfl), rfl⟩
      · exact ⟨_, .inr (.inr (.inl ⟨p, q, hp, hq, rfl⟩)), rfl⟩
      · rcases hw with ⟨hz, rfl⟩ | ⟨hz, rfl⟩
        · exact ⟨_, .inr (.inr (.inr (.inl ⟨hz, rfl⟩))), rfl⟩
        · exact ⟨_, .inr (.inr (.inr (.inr ⟨hz, rfl⟩))), rfl⟩
    obtain ⟨c, hc, rfl⟩ := hd'
    refine ⟨c, u', hc, ?_⟩
    have fc : (stD c).flat = true := by
      rcases hc with rfl | rfl | ⟨_, _, _, _, rfl⟩ | ⟨_, rfl⟩ | ⟨_, rfl⟩ <;> rfl
    show evS wds NW_ (R (n + 4)) (.app 3 (.call 23 [(.v 0), (.bin .Add (.v 4) (.lst [_]))])) _ _ = _
    have g : (envF (some (true, .lst fxL)) (some (false, .int z)) [a, b] (some (true, .lst [stD (lin "C" "on line" "A" "B"), stD (lin "C" "on ring" "A" "B"), stD (fxd "C" p q)])) none none none none none)[3]? = some (some (true, .lst [stD a, stD b])) := rfl
    have v4 : evE wds NW_ (R (n + 4)) (.v 4) (envF (some (true, .lst fxL)) (some (false, .int z)) [a, b] (some (true, .lst [stD (lin "C" "on line" "A" "B"), stD (lin "C" "on ring" "A" "B"), stD (fxd "C" p q)])) none none none none none) u4 = .ok (.lst [stD (lin "C" "on line" "A" "B"), stD (lin "C" "on ring" "A" "B"), stD (fxd "C" p q)]) u4 := by
      simp [evE, envF]
    have v0 : evE wds NW_ (R (n + 4)) (.v 0) (envF (some (true, .lst fxL)) (some (false, .int z)) [a, b] (some (true, .lst [stD (lin "C" "on line" "A" "B"), stD (lin "C" "on ring" "A" "B"), stD (fxd "C" p q)])) none none none none none) u4 = .ok .cup u4 := by
      simp [evE, envF]
    have ad := addL (xs := [stD (lin "C" "on line" "A" "B"), stD (lin "C" "on ring" "A" "B"), stD (fxd "C" p q)]) (ys := [stD w]) (by simp)
    rw [evS, g]
    simp only []
    rw [evE, evL, v0]
    simp only [Re.bind]
    rw [evL, evE, v4]
    simp only [Re.bind]
    rw [evE, evL_one ew]
    simp only [Re.bind]
    rw [if_pos (by simp [big])]
    simp only [Re.bind, ad, lift, evL]
    have ed' : R (n + 4) 23 [.cup, .lst ([stD (lin "C" "on line" "A" "B"), stD (lin "C" "on ring" "A" "B"), stD (fxd "C" p q)] ++ [stD w])] u4 = .ok (stD c) u' := ed
    rw [ed']
    simp only [ofRe, fc]
    rfl
  have D3 : Dr [a, b, c] := three_dr ha hb hc
  have q6 : evS wds NW_ (R (n + 4)) (stx 6) (envF (some (true, .lst fxL)) (some (false, .int z)) [a, b, c] (some (true, .lst [stD (lin "C" "on line" "A" "B"), stD (lin "C" "on ring" "A" "B"), stD (fxd "C" p q)])) none none none none none) u5 = .next (envF (some (true, .lst fxL)) (some (false, .int z)) [a, b, c] (some (true, .lst [stD (lin "C" "on line" "A" "B"), stD (lin "C" "on ring" "A" "B"), stD (fxd "C" p q)])) (some (true, .dic mK mV)) none none none none) u5 := by
    refine (set_fresh (d := .dic mK mV) (u1 := u5) ?_ rfl rfl).trans rfl
    have dv : dicV [.str (PySem.Str.ofString "middle"), .int 2, .str (PySem.Str.ofString "past"), .int 3, .str (PySem.Str.ofString "turned"), .int 2, .str (PySem.Str.ofString "meet"), .int 4, .str (PySem.Str.ofString "foot"), .int 3, .str (PySem.Str.ofString "mirror"), .int 3, .str (PySem.Str.ofString "second"), .int 3, .str (PySem.Str.ofString "round"), .int 3, .str (PySem.Str.ofString "rings"), .int 3, .str (PySem.Str.ofString "on line"), .int 2] = some (.dic mK mV) := by kernel_rfl
    simp [evE, evL, Re.bind, dv, lift]
  -- some more steps
  obtain ⟨y, u6, ey, y0, y3⟩ := roll_sm (n := n + 3) (m := 3) (u := u5) (by decide) (by decide)
  obtain ⟨xs, hxs, l3, nd, mem, esl⟩ : ∃ xs : List Str, evE wds NW_ (R (n + 4)) (.sl (.tup [(.c (.str (PySem.Str.ofString "D"))), (.c (.str (PySem.Str.ofString "E"))), (.c (.str (PySem.Str.ofString "F")))]) (.c .non) (.bin .Add (.c (.int 1)) (.call 22 [(.v 0), (.c (.int 3))]))) (envF (some (true, .lst fxL)) (some (false, .int z)) [a, b, c] (some (true, .lst [stD (lin "C" "on line" "A" "B"), stD (lin "C" "on ring" "A" "B"), stD (fxd "C" p q)])) (some (true, .dic mK mV)) none none none none) u5 = .ok (.tup (xs.map .str)) u6 ∧ xs.length ≤ 3 ∧ xs.Nodup ∧ (∀ x ∈ xs, x ∈ QW ∧ x ∉ [("A" : Str), "B", "C"]) ∧ True := by
    have yy : y = 0 ∨ y = 1 ∨ y = 2 := by omega
    have v : evE wds NW_ (R (n + 4)) (.bin .Add (.c (.int 1)) (.call 22 [(.v 0), (.c (.int 3))])) (envF (some (true, .lst fxL)) (some (false, .int z)) [a, b, c] (some (true, .lst [stD (lin "C" "on line" "A" "B"), stD (lin "C" "on ring" "A" "B"), stD (fxd "C" p q)])) (some (true, .dic mK mV)) none none none none) u5 = .ok (.int (1 + y)) u6 := by
      have v0 : evE wds NW_ (R (n + 4)) (.call 22 [(.v 0), (.c (.int 3))]) (envF (some (true, .lst fxL)) (some (false, .int z)) [a, b, c] (some (true, .lst [stD (lin "C" "on line" "A" "B"), stD (lin "C" "on ring" "A" "B"), stD (fxd "C" p q)])) (some (true, .dic mK mV)) none none none none) u5 = .ok (.int y) u6 := by
        simp only [evE, evL, Re.bind, envF, List.getElem?_cons_zero]
        exact ey
      rw [evE, evE, Re.bind, v0]
      simp only [Re.bind, addI, lift]
    have sl : ∀ k : Int, slV (.tup [.str (PySem.Str.ofString "D"), .str (PySem.Str.ofString "E"), .str (PySem.Str.ofString "F")]) none (some (some k)) = some (.tup (cutG [.str (PySem.Str.ofString "D"), .str (PySem.Str.ofString "E"), .str (PySem.Str.ofString "F")] none (some k))) := fun k => rfl
    have tv : evE wds NW_ (R (n + 4)) (.tup [(.c (.str (PySem.Str.ofString "D"))), (.c (.str (PySem.Str.ofString "E"))), (.c (.str (PySem.Str.ofString "F")))]) (envF (some (true, .lst fxL)) (some (false, .int z)) [a, b, c] (some (true, .lst [stD (lin "C" "on line" "A" "B"), stD (lin "C" "on ring" "A" "B"), stD (fxd "C" p q)])) (some (true, .dic mK mV)) none none none none) u5 = .ok (.tup [.str (PySem.Str.ofString "D"), .str (PySem.Str.ofString "E"), .str (PySem.Str.ofString "F")]) u5 := by
      simp [evE, evL, Re.bind, big]
    rcases yy with rfl | rfl | rfl
    · refine ⟨["D"], ?_, by decide, by decide, by decide, trivial⟩
      exact sl_hi tv v rfl rfl
    · refine ⟨["D", "E"], ?_, by decide, by decide, by decide, trivial⟩
      exact sl_hi tv v rfl rfl
    · refine ⟨["D", "E", "F"], ?_, by decide, by decide, by decide, trivial⟩
      exact sl_hi tv v rfl rfl
  obtain ⟨S, t6, t7, t8, t9, u7, e7, DS⟩ := af_loop (n := n) (s1 := some (true, .lst fxL)) (s2 := some (false, .int z)) (s4 := some (true, .lst [stD (lin "C" "on line" "A" "B"), stD (lin "C" "on ring" "A" "B"), stD (fxd "C" p q)])) (b5 := true) (xs := xs) (S := [a, b, c]) (u := u6) (s6 := none) (s7 := none) (s8 := none) (s9 := none) D3 (by simp; omega) nd fun x hx => by
    have e : nms [a, b, c] = [("A" : Str), "B", "C"] := by
      have oa : a.nm = "A" := by rcases ha with ⟨_, rfl⟩ | ⟨_, _, _, _, _, rfl⟩ <;> rfl
      have ob : b.nm = "B" := by rcases hb with ⟨_, _, _, _, _, rfl⟩ | ⟨_, rfl⟩ <;> rfl
      have oc : c.nm = "C" := by rcases hc with rfl | rfl | ⟨_, _, _, _, rfl⟩ | ⟨_, rfl⟩ | ⟨_, rfl⟩ <;> rfl
      simp [nms, oa, ob, oc]
    rw [e]
    exact mem x hx
  have q7 : evS wds NW_ (R (n + 4)) (stx 7) (envF (some (true, .lst fxL)) (some (false, .int z)) [a, b, c] (some (true, .lst [stD (lin "C" "on line" "A" "B"), stD (lin "C" "on ring" "A" "B"), stD (fxd "C" p q)])) (some (true, .dic mK mV)) none none none none) u5 = .next (envF (some (true, .lst fxL)) (some (false, .int z)) S (some (true, .lst [stD (lin "C" "on line" "A" "B"), stD (lin "C" "on ring" "A" "B"), stD (fxd "C" p q)])) (some (true, .dic mK mV)) t6 t7 t8 t9) u7 :=
    for_next (tg := .n 6) (body := afB) hxs rfl (by rfl) e7
  obtain ⟨S', q8, DS'⟩ := wl_ok (n := n + 2) (u := u7) DS (s1 := some (true, .lst fxL)) (s2 := some (false, .int z)) (s4 := some (true, .lst [stD (lin "C" "on line" "A" "B"), stD (lin "C" "on ring" "A" "B"), stD (fxd "C" p q)])) (s5 := some (true, .dic mK mV)) (s6 := t6) (s7 := t7) (s8 := t8) (s9 := t9)
  have q9 : evS wds NW_ (R (n + 4)) (.ret (.bi .tuple [(.v 3)])) (envF (some (true, .lst fxL)) (some (false, .int z)) S' (some (true, .lst [stD (lin "C" "on line" "A" "B"), stD (lin "C" "on ring" "A" "B"), stD (fxd "C" p q)])) (some (true, .dic mK mV)) t6 t7 t8 t9) u7 = .ret (fgD S') u7 := by
    simp [evS, evE, evL, Re.bind, ofRe, envF, biV, lift, fgD]
  exact ⟨S', u7, run_ret d_law_any_figure rfl rfl ((evSs_next q0).trans ((evSs_next q1).trans ((evSs_next q2).trans ((evSs_next q3).trans ((evSs_next q4).trans ((evSs_next q5).trans ((evSs_next q6).trans ((evSs_next q7).trans ((evSs_next q8).trans (evSs_ret q9)))))))))), DS'.fig⟩
end
/-! ### sixteen steps -/
theorem great_end {u : Cup} {z : Int} (z0 : 0 ≤ z) (z4 : z < 4) : evSs wds NW_ (R 15) (d_law_great_right.body.drop 1) [some (false, .cup), some (false, .int z), none, none, none, none] u = .ret (.bl true) u := by
  have : z = 0 ∨ z = 1 ∨ z = 2 ∨ z = 3 := by omega
  rcases this with rfl | rfl | rfl | rfl <;> kernel_rfl
theorem great_ok {u : Cup} : ∃ u', R 16 35 [.cup] u = .ok (.bl true) u' := by
  obtain ⟨z, u1, ez, z0, z4⟩ := roll_sm (n := 14) (m := 4) (u := u) (by decide) (by decide)
  refine ⟨u1, run_ret d_law_great_right rfl rfl ?_⟩
  have q1 : evS wds NW_ (R 15) (.set 1 (.call 22 [(.v 0), (.c (.int 4))])) (Ev.start [.cup] 6) u = .next [some (false, .cup), some (false, .int z), none, none, none, none] u1 := by
    refine (set_flat (d := .int z) (u1 := u1) ?_ rfl rfl).trans rfl
    simp only [evE, evL, Re.bind]
    exact ez
  exact (evSs_next q1).trans (great_end z0 z4)
/-! ### the law's own statements, for every cup -/
abbrev lE (t : Sl) : En := [none, some (false, .cup), t, none, none, none, none, none, none]
abbrev lB : List Sx := [(.ite (.not (.call 34 [(.call 28 [(.v 1)])])) [(.ret (.c (.bl false)))] [])]
theorem l_turn {u : Cup} {t : Sl} {x : D} : ∃ u', turnS wds NW_ (R 16) (.n 2) lB x (lE t) u = .next (lE (some (false, x))) u' := by
  obtain ⟨S, u1, e1, F⟩ := any_ok (n := 11) (u := u)
  have e2 : R 16 34 [fgD S] u1 = .ok (.bl true) u1 := right_ok (n := 6) F
  simp only [R] at e1 e2
  exact ⟨u1, by simp [turnS, Tg.put, evSs, evS, evE, evL, ofRe, Re.bind, e1, e2]⟩
theorem l_loop : ∀ (l : List D) (u : Cup) (t : Sl) (x : D), ∃ u', forLoop (turnS wds NW_ (R 16) (.n 2) lB) (l ++ [x]) (lE t) u = .next (lE (some (false, x))) u'
  | [], u, t, x => by
    obtain ⟨u', e⟩ := l_turn (u := u) (t := t) (x := x)
    refine ⟨u', ?_⟩
    rw [List.nil_append, forLoop, e]
    rfl
  | y :: l, u, t, x => by
    obtain ⟨u1, e⟩ := l_turn (u := u) (t := t) (x := y)
    obtain ⟨u2, e2⟩ := l_loop l u1 (some (false, y)) x
    refine ⟨u2, ?_⟩
    rw [List.cons_append, forLoop, e]
    exact e2
def lE1 : En := match evSs wds NW_ (R 16) ((s_law.drop 1).take 7) (lE (some (false, .int 11))) (0, 0) with
  | .next e _ => e
  | _ => []
theorem l_mid {u : Cup} : evSs wds NW_ (R 16) ((s_law.drop 1).take 7) (lE (some (false, .int 11))) u = .next lE1 u := by kernel_rfl
abbrev lA : Ex := match s_law.getD 8 .pass with
  | .ret (.bop .And [a, _, _]) => a
  | _ => .never
theorem l_a {u : Cup} : evE wds NW_ (R 16) lA lE1 u = .ok (.bl true) u := by kernel_rfl
theorem l_b {u : Cup} : R 16 36 [] u = .ok (.bl true) u := by kernel_rfl
theorem l_1 : lE1[1]? = some (some (false, .cup)) := by kernel_rfl
theorem seq_app {call : Nat → List D → Cup → Re D} : ∀ {a b : List Sx} {env e1 : En} {u u1 : Cup}, evSs wds NW_ call a env u = .next e1 u1 → evSs wds NW_ call (a ++ b) env u = evSs wds NW_ call b e1 u1
  | [], b, env, e1, u, u1, h => by
    rw [evSs_nil] at h
    cases h
    rfl
  | s :: a, b, env, e1, u, u1, h => by
    rw [evSs] at h
    rw [List.cons_append, evSs]
    cases e : evS wds NW_ call s env u with
    | next e2 u2 =>
      rw [e] at h
      exact seq_app h
    | ret d u2 => rw [e] at h; cases h
    | exc k u2 => rw [e] at h; cases h
    | bad => rw [e] at h; cases h
theorem plain : ∀ ns : List Int, ns.length ≤ 63 → ∃ u', evSs wds NW_ (Ev.run wds NW_ prog 16) s_law (lawEnv n_law.length) (cup0 ns) = .ret (.bl true) u' := fun ns _ => by
  obtain ⟨u1, e⟩ := l_loop (range 11) (cup0 ns) none (.int 11)
  obtain ⟨u2, e35⟩ := great_ok (u := u1)
  refine ⟨u2, ?_⟩
  have q1 : evS wds NW_ (R 16) (.for_ (.n 2) (.rng (.c (.int 12))) lB) (lE none) (cup0 ns) = .next (lE (some (false, .int 11))) u1 := by
    refine for_next (d := .lst (range 12)) (e1 := lE none) (u1 := cup0 ns) (rng_ok (by rw [evE]) (by decide) (by decide)) rfl ?_ ?_
    · rfl
    · exact e
  have q3 : evS wds NW_ (R 16) (.ret (.bop .And [lA, (.call 36 []), (.call 35 [(.v 1)])])) lE1 u1 = .ret (.bl true) u2 := by
    have v : evE wds NW_ (R 16) (.bop .And [lA, (.call 36 []), (.call 35 [(.v 1)])]) lE1 u1 = .ok (.bl true) u2 := by
      have v36 : evE wds NW_ (R 16) (.call 36 []) lE1 u1 = .ok (.bl true) u1 := by
        rw [evE, evL]
        exact l_b
      have v35 : evE wds NW_ (R 16) (.call 35 [(.v 1)]) lE1 u1 = .ok (.bl true) u2 := by
        have v1 : evE wds NW_ (R 16) (.v 1) lE1 u1 = .ok .cup u1 := by rw [evE, l_1]
        rw [evE, evL_one v1]
        exact e35
      rw [evE, evB, l_a]
      simp only [Re.bind]
      rw [evB, v36]
      simp only [Re.bind]
      rw [evB, v35]
      simp only [Re.bind, evB]
    rw [evS, v]
    rfl
  show evSs wds NW_ (R 16) (.for_ (.n 2) (.rng (.c (.int 12))) lB :: ((s_law.drop 1).take 7 ++ [.ret (.bop .And [lA, (.call 36 []), (.call 35 [(.v 1)])])])) (lE none) (cup0 ns) = _
  exact (evSs_next q1).trans ((seq_app l_mid).trans (evSs_ret q3))
end K09

open PySem PySem.W PyProof.Rows
set_option maxRecDepth 100000 in
set_option maxHeartbeats 0 in
theorem PySem.Challenge.cw_figuresproved_k09_whole_free_signs_holds : PySem.Challenge.rw_figuresproved_k09_whole_free_signs.Holds := by
  w_on; o_law; k_head; (case hw => w_witness2)
  k_fill
  refine LamX.walk_ofTs (l := PySem.Challenge.rw_figuresproved_k09_whole_free_signs) (n := 63) (k := 3 * 16 + 3) (x := "script") (CX := fun w => L2N.CX PySem.Challenge.rw_figuresproved_k09_whole_free_signs.prog w) rfl (by decide) rfl ⟨rfl, by decide, by decide⟩ (fun w h Y => PySem.W.km_in_of Y) ?F (fun w H s e s' z => by obtain ⟨_, _, _, _, _, _, _, _, _, _, _, _, q⟩ := z; exact q)
  case F =>
    intro w mg fa h Y KX G hmg
    refine' K09.raw_ KX G hmg (PySem.W.km_tabs_of Y) ?a_is_whole ?l_is_whole ?e_is_whole ?k_is_whole ?a_need_whole ?l_need_whole ?e_need_whole ?k_need_whole ?a_is_tuple_of ?l_is_tuple_of ?e_is_tuple_of ?k_is_tuple_of ?a_is_fraction ?l_is_fraction ?e_is_fraction ?k_is_fraction ?a_is_portion ?l_is_portion ?e_is_portion ?k_is_portion ?a_is_name ?l_is_name ?e_is_name ?k_is_name ?a_args_of ?l_args_of ?e_args_of ?k_args_of ?a_near ?l_near ?e_near ?k_near ?a_is_step ?l_is_step ?e_is_step ?k_is_step ?a_is_figure ?l_is_figure ?e_is_figure ?k_is_figure ?a_count_free ?l_count_free ?e_count_free ?k_count_free ?a_need_figure ?l_need_figure ?e_need_figure ?k_need_figure ?a_name_list ?l_name_list ?e_name_list ?k_name_list ?a_first_number ?l_first_number ?e_first_number ?k_first_number ?a_step_of ?l_step_of ?e_step_of ?k_step_of ?a_points_of_step ?l_points_of_step ?e_points_of_step ?k_points_of_step ?a_ahead_of ?l_ahead_of ?e_ahead_of ?k_ahead_of ?a_signs_of ?l_signs_of ?e_signs_of ?k_signs_of ?a_own_signs ?l_own_signs ?e_own_signs ?k_own_signs ?a_signs_behind ?l_signs_behind ?e_signs_behind ?k_signs_behind ?a_steps_ahead ?l_steps_ahead ?e_steps_ahead ?k_steps_ahead ?a_step_of_sign ?l_step_of_sign ?e_step_of_sign ?k_step_of_sign ?a__law_roll ?l__law_roll ?e__law_roll ?k__law_roll ?a__law_some ?l__law_some ?e__law_some ?k__law_some ?a__law_sort ?l__law_sort ?e__law_sort ?k__law_sort ?a__law_like ?l__law_like ?e__law_like ?k__law_like ?a__law_free ?l__law_free ?e__law_free ?k__law_free ?a__law_bounds ?l__law_bounds ?e__law_bounds ?k__law_bounds ?a__law_any_figure ?l__law_any_figure ?e__law_any_figure ?k__law_any_figure ?a__law_turned ?l__law_turned ?e__law_turned ?k__law_turned ?a__law_ahead ?l__law_ahead ?e__law_ahead ?k__law_ahead ?a__law_signs ?l__law_signs ?e__law_signs ?k__law_signs ?a__law_odd_figures ?l__law_odd_figures ?e__law_odd_figures ?k__law_odd_figures ?a__law_given ?l__law_given ?e__law_given ?k__law_given ?a__law_right ?l__law_right ?e__law_right ?k__law_right ?a__law_great_right ?l__law_great_right ?e__law_great_right ?k__law_great_right ?a__law_errors_right ?l__law_errors_right ?e__law_errors_right ?k__law_errors_right ?a__law_cup ?l__law_cup ?e__law_cup ?k__law_cup ?a__law_error ?l__law_error ?e__law_error ?k__law_error ?a_law ?l_law ?e_law ?k_law ?Z__law_right ?Z__law_errors_right ?Q_1_0 ?aC0 ?aC1 ?kC1 ?qC1 ?sC1 ?yC1 ?aC2 ?kC2 ?qC2 ?sC2 ?yC2 ?aC3 ?kC3 ?qC3 ?sC3 ?yC3 ?aC4 ?aC5 ?aC6 ?aC7 ?eC1 ?x0C1 ?x1C1 ?x2C1 ?x3C1 ?x4C1 ?iC1_0 ?iC1_1 ?iC1_2 ?iC1_3 ?iC1_4 ?iC1_5 ?iC1_6 ?iC1_7 ?eC2 ?x0C2 ?x1C2 ?x2C2 ?x3C2 ?x4C2 ?iC2_0 ?iC2_1 ?iC2_2 ?iC2_3 ?iC2_4 ?iC2_5 ?iC2_6 ?iC2_7 ?eC3 ?x0C3 ?x1C3 ?x2C3 ?x3C3 ?x4C3 ?iC3_0 ?iC3_1 ?iC3_2 ?iC3_3 ?iC3_4 ?iC3_5 ?iC3_6 ?iC3_7 ?y1 ?y2 ?b_isinstance ?b_int ?b_bool ?b_str ?b_tuple ?b_list ?b_len ?b_abs ?b_all ?b_any ?b_sum ?b_range ?b_zip ?b_enumerate ?b_max ?b_min ?b_sorted ?b_dict ?b_set ?b_gcd ?K_FAR ?K_STEPS ?K_FREE ?K_NEAR ?K_LETTERS ?K_KINDS ?U_KINDS ?V_KINDS ?K_MORE ?U_MORE ?V_MORE ?K_NUMBERS ?U_NUMBERS ?V_NUMBERS K09.plain
    (case a_is_whole => k_is)
    (case l_is_whole => k_is)
    (case e_is_whole => k_is)
    (case k_is_whole => k_is)
    (case a_need_whole => k_is)
    (case l_need_whole => k_is)
    (case e_need_whole => k_is)
    (case k_need_whole => k_is)
    (case a_is_tuple_of => k_is)
    (case l_is_tuple_of => k_is)
    (case e_is_tuple_of => k_is)
    (case k_is_tuple_of => k_is)
    (case a_is_fraction => k_is)
    (case l_is_fraction => k_is)
    (case e_is_fraction => k_is)
    (case k_is_fraction => k_is)
    (case a_is_portion => k_is)
    (case l_is_portion => k_is)
    (case e_is_portion => k_is)
    (case k_is_portion => k_is)
    (case a_is_name => k_is)
    (case l_is_name => k_is)
    (case e_is_name => k_is)
    (case k_is_name => k_is)
    (case a_args_of => k_is)
    (case l_args_of => k_is)
    (case e_args_of => k_is)
    (case k_args_of => k_is)
    (case a_near => k_is)
    (case l_near => k_is)
    (case e_near => k_is)
    (case k_near => k_is)
    (case a_is_step => k_is)
    (case l_is_step => k_is)
    (case e_is_step => k_is)
    (case k_is_step => k_is)
    (case a_is_figure => k_is)
    (case l_is_figure => k_is)
    (case e_is_figure => k_is)
    (case k_is_figure => k_is)
    (case a_count_free => k_is)
    (case l_count_free => k_is)
    (case e_count_free => k_is)
    (case k_count_free => k_is)
    (case a_need_figure => k_is)
    (case l_need_figure => k_is)
    (case e_need_figure => k_is)
    (case k_need_figure => k_is)
    (case a_name_list => k_is)
    (case l_name_list => k_is)
    (case e_name_list => k_is)
    (case k_name_list => k_is)
    (case a_first_number => k_is)
    (case l_first_number => k_is)
    (case e_first_number => k_is)
    (case k_first_number => k_is)
    (case a_step_of => k_is)
    (case l_step_of => k_is)
    (case e_step_of => k_is)
    (case k_step_of => k_is)
    (case a_points_of_step => k_is)
    (case l_points_of_step => k_is)
    (case e_points_of_step => k_is)
    (case k_points_of_step => k_is)
    (case a_ahead_of => k_is)
    (case l_ahead_of => k_is)
    (case e_ahead_of => k_is)
    (case k_ahead_of => k_is)
    (case a_signs_of => k_is)
    (case l_signs_of => k_is)
    (case e_signs_of => k_is)
    (case k_signs_of => k_is)
    (case a_own_signs => k_is)
    (case l_own_signs => k_is)
    (case e_own_signs => k_is)
    (case k_own_signs => k_is)
    (case a_signs_behind => k_is)
    (case l_signs_behind => k_is)
    (case e_signs_behind => k_is)
    (case k_signs_behind => k_is)
    (case a_steps_ahead => k_is)
    (case l_steps_ahead => k_is)
    (case e_steps_ahead => k_is)
    (case k_steps_ahead => k_is)
    (case a_step_of_sign => k_is)
    (case l_step_of_sign => k_is)
    (case e_step_of_sign => k_is)
    (case k_step_of_sign => k_is)
    (case a__law_roll => k_is)
    (case l__law_roll => k_is)
    (case e__law_roll => k_is)
    (case k__law_roll => k_is)
    (case a__law_some => k_is)
    (case l__law_some => k_is)
    (case e__law_some => k_is)
    (case k__law_some => k_is)
    (case a__law_sort => k_is)
    (case l__law_sort => k_is)
    (case e__law_sort => k_is)
    (case k__law_sort => k_is)
    (case a__law_like => k_is)
    (case l__law_like => k_is)
    (case e__law_like => k_is)
    (case k__law_like => k_is)
    (case a__law_free => k_is)
    (case l__law_free => k_is)
    (case e__law_free => k_is)
    (case k__law_free => k_is)
    (case a__law_bounds => k_is)
    (case l__law_bounds => k_is)
    (case e__law_bounds => k_is)
    (case k__law_bounds => k_is)
    (case a__law_any_figure => k_is)
    (case l__law_any_figure => k_is)
    (case e__law_any_figure => k_is)
    (case k__law_any_figure => k_is)
    (case a__law_turned => k_is)
    (case l__law_turned => k_is)
    (case e__law_turned => k_is)
    (case k__law_turned => k_is)
    (case a__law_ahead => k_is)
    (case l__law_ahead => k_is)
    (case e__law_ahead => k_is)
    (case k__law_ahead => k_is)
    (case a__law_signs => k_is)
    (case l__law_signs => k_is)
    (case e__law_signs => k_is)
    (case k__law_signs => k_is)
    (case a__law_odd_figures => k_is)
    (case l__law_odd_figures => k_is)
    (case e__law_odd_figures => k_is)
    (case k__law_odd_figures => k_is)
    (case a__law_given => k_is)
    (case l__law_given => k_is)
    (case e__law_given => k_is)
    (case k__law_given => k_is)
    (case a__law_right => k_is)
    (case l__law_right => k_is)
    (case e__law_right => k_is)
    (case k__law_right => k_is)
    (case a__law_great_right => k_is)
    (case l__law_great_right => k_is)
    (case e__law_great_right => k_is)
    (case k__law_great_right => k_is)
    (case a__law_errors_right => k_is)
    (case l__law_errors_right => k_is)
    (case e__law_errors_right => k_is)
    (case k__law_errors_right => k_is)
    (case a__law_cup => k_is)
    (case l__law_cup => k_is)
    (case e__law_cup => k_is)
    (case k__law_cup => k_is)
    (case a__law_error => k_is)
    (case l__law_error => k_is)
    (case e__law_error => k_is)
    (case k__law_error => k_is)
    (case a_law => k_is)
    (case l_law => k_is)
    (case e_law => k_is)
    (case k_law => k_is)
    (case Z__law_right => first | exact ⟨by rfl, List.mem_cons_self, by rfl⟩ | exact ⟨by rfl, (List.mem_cons_of_mem _ List.mem_cons_self), by rfl⟩)
    (case Z__law_errors_right => first | exact ⟨by rfl, List.mem_cons_self, by rfl⟩ | exact ⟨by rfl, (List.mem_cons_of_mem _ List.mem_cons_self), by rfl⟩)
    (case Q_1_0 => decide)
    (case aC0 => k_is)
    (case aC1 => k_is)
    (case kC1 => k_is)
    (case qC1 => kernel_rfl)
    (case sC1 => k_is)
    (case yC1 => k_is)
    (case aC2 => k_is)
    (case kC2 => k_is)
    (case qC2 => kernel_rfl)
    (case sC2 => k_is)
    (case yC2 => k_is)
    (case aC3 => k_is)
    (case kC3 => k_is)
    (case qC3 => kernel_rfl)
    (case sC3 => k_is)
    (case yC3 => k_is)
    (case aC4 => k_is)
    (case aC5 => k_is)
    (case aC6 => k_is)
    (case aC7 => k_is)
    (case eC1 => kernel_rfl)
    (case x0C1 => k_is)
    (case x1C1 => k_is)
    (case x2C1 => k_is)
    (case x3C1 => k_is)
    (case x4C1 => k_is)
    (case iC1_0 => kernel_rfl)
    (case iC1_1 => kernel_rfl)
    (case iC1_2 => kernel_rfl)
    (case iC1_3 => kernel_rfl)
    (case iC1_4 => kernel_rfl)
    (case iC1_5 => kernel_rfl)
    (case iC1_6 => kernel_rfl)
    (case iC1_7 => kernel_rfl)
    (case eC2 => kernel_rfl)
    (case x0C2 => k_is)
    (case x1C2 => k_is)
    (case x2C2 => k_is)
    (case x3C2 => k_is)
    (case x4C2 => k_is)
    (case iC2_0 => kernel_rfl)
    (case iC2_1 => kernel_rfl)
    (case iC2_2 => kernel_rfl)
    (case iC2_3 => kernel_rfl)
    (case iC2_4 => kernel_rfl)
    (case iC2_5 => kernel_rfl)
    (case iC2_6 => kernel_rfl)
    (case iC2_7 => kernel_rfl)
    (case eC3 => kernel_rfl)
    (case x0C3 => k_is)
    (case x1C3 => k_is)
    (case x2C3 => k_is)
    (case x3C3 => k_is)
    (case x4C3 => k_is)
    (case iC3_0 => kernel_rfl)
    (case iC3_1 => kernel_rfl)
    (case iC3_2 => kernel_rfl)
    (case iC3_3 => kernel_rfl)
    (case iC3_4 => kernel_rfl)
    (case iC3_5 => kernel_rfl)
    (case iC3_6 => kernel_rfl)
    (case iC3_7 => kernel_rfl)
    (case y1 => k_is)
    (case y2 => k_is)
    (case b_isinstance => k_is)
    (case b_int => k_is)
    (case b_bool => k_is)
    (case b_str => k_is)
    (case b_tuple => k_is)
    (case b_list => k_is)
    (case b_len => k_is)
    (case b_abs => k_is)
    (case b_all => k_is)
    (case b_any => k_is)
    (case b_sum => k_is)
    (case b_range => k_is)
    (case b_zip => k_is)
    (case b_enumerate => k_is)
    (case b_max => k_is)
    (case b_min => k_is)
    (case b_sorted => k_is)
    (case b_dict => k_is)
    (case b_set => k_is)
    (case b_gcd => k_is)
    (case K_FAR => k_is)
    (case K_STEPS => k_is)
    (case K_FREE => k_is)
    (case K_NEAR => k_is)
    (case K_LETTERS => k_is)
    (case K_KINDS => k_is)
    (case U_KINDS => kernel_rfl)
    (case V_KINDS => kernel_rfl)
    (case K_MORE => k_is)
    (case U_MORE => kernel_rfl)
    (case V_MORE => kernel_rfl)
    (case K_NUMBERS => k_is)
    (case U_NUMBERS => kernel_rfl)
    (case V_NUMBERS => kernel_rfl)

