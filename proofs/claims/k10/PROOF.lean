import PyProof.Rows.All
import HandS.ForExc
import HandS.More
import HandS.Comp
import HandS.Iter
import HandS.Zip
import HandS.Text
import HandS.Dict
import HandS.DictComp
import HandS.Deep
import HandS.IsInst
import HandS.ExcInit
import HandS.ExcField
import HandS.TryMany
import HandS.Lambda
import HandS.EndTab
import HandS.Flow
import HandS.Style
import HandS.TupAny
import HandS.TupLen
import HandS.Conv
import HandS.Wide
import HandS.SortInts
import HandS.HeadHook4
import KE.KEqDict
import HandS.TryOnly
import HandS.NoneIn
import KE.GoesMore
import HandS.Words
import HandS.HeadWalk
import HandS.HeadEnd
import HandS.Head0
import HandS.Head1
import HandS.Head2
import PySem.Challenge.RW_pressrecord_k10_lots_and_clear_presses
section
set_option Elab.async false
set_option linter.all false
set_option maxRecDepth 100000
/-! PB1: plain values, a small language of them, its evaluator. -/
namespace PB
open PySem L2

/-- a plain value -/
inductive T where
  | non | bl (b : Bool) | int (i : Int) | str (s : Str)
  | lst (xs : List T) | tup (xs : List T)
  | dK (kvs : List (Key × T)) | dT (kvs : List (List Key × T))
  | ins (C : Str) (fs : List (Str × T))
  | tok | scr (ns : List Int)

/-- what the draws' state holds: the cells left, three numbers -/
structure Draw where
  cs : List Int
  a : Int
  b : Int
  c : Int

/-- a slot's content: whether the slot alone holds the object, the value -/
abbrev R := Bool × T
structure Ev where
  s : List (Option R)
  d : Option Draw
inductive Out (α : Type) where
  | ok (a : α)
  | exc (C : Str) (fs : List (Str × T))
abbrev M (α : Type) := Ev → Option (Out α × Ev)
def bnd {α β : Type} (m : M α) (k : α → M β) : M β := fun e =>
  match m e with
  | none => none
  | some (.ok a, e') => k a e'
  | some (.exc C fs, e') => some (.exc C fs, e')
def ret {α : Type} (a : α) : M α := fun e => some (.ok a, e)
def opt {α : Type} (o : Option α) : M α := fun e => o.map fun a => (.ok a, e)
def chk (b : Bool) : M Unit := fun e => if b then some (.ok (), e) else none

/-! ### operations on values -/
mutual
def T.py : T → Option PyData
  | .non => some .none
  | .bl b => some (.bool b)
  | .int i => some (.int i)
  | .str s => some (.str s)
  | .lst xs => (T.pys xs).map .list
  | .tup xs => (T.pys xs).map .tuple
  | _ => none
def T.pys : List T → Option (List PyData)
  | [] => some []
  | t :: ts => match t.py, T.pys ts with
    | some d, some ds => some (d :: ds)
    | _, _ => none
end
/-! lists and tuples at most so deep -/
mutual
def T.dep : T → Nat
  | .lst xs => T.deps xs + 1
  | .tup xs => T.deps xs + 1
  | _ => 0
def T.deps : List T → Nat
  | [] => 0
  | t :: ts => max t.dep (T.deps ts)
end
/-- an object that a slot may hold alone -/
def T.rt : T → Bool
  | .lst _ => true
  | .dK _ => true
  | .dT _ => true
  | .ins _ _ => true
  | _ => false
/-! whether an object that could be changed stands in it -/
mutual
def T.hv : T → Bool
  | .lst _ => true
  | .dK _ => true
  | .dT _ => true
  | .ins _ _ => true
  | .tup xs => T.hvs xs
  | _ => false
def T.hvs : List T → Bool
  | [] => false
  | t :: ts => t.hv || T.hvs ts
end
/-- of an object held by a slot alone: its parts -/
def T.hvIn : T → Bool
  | .lst xs => T.hvs xs
  | .dK kvs => kvs.any fun p => p.2.hv
  | .dT kvs => kvs.any fun p => p.2.hv
  | .ins _ fs => fs.any fun p => p.2.hv
  | t => t.hv
def hvR (r : R) : Bool := if r.1 then r.2.hvIn else r.2.hv

/-- == -/
def eqT (x y : T) : Option Bool :=
  match x, y with
  | .dK kvs, .dK [] => some kvs.isEmpty
  | .dT kvs, .dK [] => some kvs.isEmpty
  | x, y => match x.py, y.py with
    | some d, some e => if d.canLay0 && e.canLay0 && decide (min d.depth e.depth ≤ 64) then some (PyData.eqv d e) else none
    | _, _ => none
def T.flat : T → Bool
  | .non => true | .bl _ => true | .int _ => true | .str _ => true
  | _ => false
/-- == of flat values -/
def eqF : T → T → Bool
  | .non, .non => true
  | .bl a, .bl b => a == b
  | .bl a, .int b => (if a then 1 else 0) == b
  | .int a, .bl b => a == (if b then 1 else 0)
  | .int a, .int b => a == b
  | .str a, .str b => a == b
  | _, _ => false
def T.key : T → Option Key
  | .int i => some (.inl i)
  | .str s => some (.inr s)
  | _ => none
def keysOf : List T → Option (List Key)
  | [] => some []
  | t :: ts => match t.key, keysOf ts with
    | some k, some ks => some (k :: ks)
    | _, _ => none
def T.tkey : T → Option (List Key)
  | .tup ts => keysOf ts
  | _ => none
def keyT : Key → T
  | .inl i => .int i
  | .inr s => .str s
def getK {κ : Type} [DecidableEq κ] (kvs : List (κ × T)) (k : κ) : Option T := (kvs.find? fun p => decide (p.1 = k)).map (·.2)
def putT {κ : Type} [DecidableEq κ] (kvs : List (κ × T)) (q : κ) (t : T) : List (κ × T) :=
  if (kvs.any fun p => decide (p.1 = q)) = true then kvs.map fun p => if p.1 = q then (p.1, t) else p else kvs ++ [(q, t)]
/-- d[k], d.get(k): none: no dict or no key that is served; some none: not there -/
def dgetT (d k : T) : Option (Option T) :=
  match d with
  | .dK kvs => k.key.map fun q => getK kvs q
  | .dT kvs => k.tkey.map fun q => getK kvs q
  | _ => none
def dputT (d k v : T) : Option T :=
  match d with
  | .dK kvs => k.key.bind fun q => if kvs.length < sizeLine then some (.dK (putT kvs q v)) else none
  | .dT kvs => k.tkey.bind fun q => if kvs.length < sizeLine then some (.dT (putT kvs q v)) else none
  | _ => none
def inT (x y : T) : Option Bool :=
  match y with
  | .lst ys => if x.flat && ys.all T.flat then some (ys.any fun z => eqF z x) else none
  | .tup ys => if x.flat && ys.all T.flat then some (ys.any fun z => eqF z x) else none
  | .str z => match x with
    | .str c => if c.length = 1 then some (decide (c.cps.getD 0 0 ∈ z.cps.toList)) else none
    | _ => none
  | .dK _ => (dgetT y x).map Option.isSome
  | .dT _ => (dgetT y x).map Option.isSome
  | _ => none
inductive Cop where | eq | ne | lt | le | gt | ge | is | isn | inn | nin
  deriving DecidableEq
def isT (x y : T) : Option Bool :=
  match y with
  | .non => match x with
    | .non => some true
    | _ => some false
  | .bl b => match x with
    | .bl c => some (c == b)
    | .non => some false
    | .int _ => some false
    | .str _ => some false
    | .lst _ => some false
    | .tup _ => some false
    | .dK _ => some false
    | .dT _ => some false
    | .ins _ _ => some false
    | _ => none
  | _ => none
def strLt (a b : Str) : Bool := decide (a.cps.toList < b.cps.toList)
def cmpT (o : Cop) (x y : T) : Option Bool :=
  match o with
  | .eq => eqT x y
  | .ne => (eqT x y).map (!·)
  | .is => isT x y
  | .isn => (isT x y).map (!·)
  | .inn => inT x y
  | .nin => (inT x y).map (!·)
  | .lt => match x, y with
    | .int i, .int j => some (decide (i < j))
    | .str a, .str b => some (strLt a b)
    | _, _ => none
  | .le => match x, y with
    | .int i, .int j => some (decide (i ≤ j))
    | .str a, .str b => some (!strLt b a)
    | _, _ => none
  | .gt => match x, y with
    | .int i, .int j => some (decide (j < i))
    | .str a, .str b => some (strLt b a)
    | _, _ => none
  | .ge => match x, y with
    | .int i, .int j => some (decide (j ≤ i))
    | .str a, .str b => some (!strLt a b)
    | _, _ => none
inductive Bop where | add | sub | mul | mod | fdiv | pow
  deriving DecidableEq
def small (i : Int) : Bool := decide (-(2 ^ 64) < i) && decide (i < 2 ^ 64)
def binT (o : Bop) (x y : T) : Option R :=
  match o, x, y with
  | .add, .int i, .int j => some (false, .int (i + j))
  | .add, .str a, .str b => if a.length + b.length ≤ sizeLine then some (false, .str (a ++ b)) else none
  | .add, .lst a, .lst b => if a.length + b.length ≤ sizeLine then some (true, .lst (a ++ b)) else none
  | .sub, .int i, .int j => some (false, .int (i - j))
  | .mul, .int i, .int j => if small i || small j then some (false, .int (i * j)) else none
  | .mul, .lst a, .int j => if decide (-(2 ^ 63) ≤ j) && decide (j < 2 ^ 63) && decide (a.length * j.toNat ≤ sizeLine) then some (true, .lst (List.replicate j.toNat a).flatten) else none
  | .mod, .int i, .int j => if 0 < j then some (false, .int (i % j)) else none
  | .fdiv, .int i, .int j => if 0 < j && j < 1073741824 then some (false, .int (i / j)) else none
  | .pow, .int i, .int j => if decide (0 ≤ j) && decide (j ≤ 1000000) && decide (i.natAbs < 2 ^ 64) then some (false, .int (i ^ j.toNat)) else none
  | _, _, _ => none
/-- truth -/
def T.tru : T → Option Bool
  | .non => some false
  | .bl b => some b
  | .int i => some (i != 0)
  | .str s => if s.length ≤ sizeLine then some ((s.length : Int) != 0) else none
  | .lst xs => some (!xs.isEmpty)
  | .tup xs => some (!xs.isEmpty)
  | _ => none
def lenT : T → Option Nat
  | .str s => if s.length ≤ sizeLine then some s.length else none
  | .lst xs => some xs.length
  | .tup xs => some xs.length
  | .dK kvs => some kvs.length
  | .dT kvs => some kvs.length
  | _ => none
def ixT (x i : T) : Option T :=
  match x with
  | .lst xs => match i with
    | .int i => atI xs i
    | _ => none
  | .tup xs => match i with
    | .int i => atI xs i
    | _ => none
  | .str z => match i with
    | .int i => if z.length ≤ sizeLine then (atI z.cps.toList i).map fun c => .str ⟨#[c]⟩ else none
    | _ => none
  | .dK _ => (dgetT x i).join
  | .dT _ => (dgetT x i).join
  | _ => none
def cutL {α : Type} (xs : List α) (lo hi : Option Int) : List α :=
  (xs.drop (HT.sIx xs.length 0 lo)).take (HT.sIx xs.length xs.length hi - HT.sIx xs.length 0 lo)
def slT (x : T) (lo hi : Option Int) : Option R :=
  match x with
  | .lst xs => some (true, .lst (cutL xs lo hi))
  | .tup xs => some (false, .tup (cutL xs lo hi))
  | .str z => if z.length ≤ sizeLine then some (false, .str (cutS z lo hi)) else none
  | _ => none
def T.isD : T → Bool
  | .dK _ => true
  | .dT _ => true
  | _ => false
/-- what a walk yields: the items of a list or tuple, the keys of a dict -/
def itemsT : T → Option (List T)
  | .lst xs => some xs
  | .tup xs => some xs
  | .dK kvs => some (kvs.map fun p => keyT p.1)
  | .dT kvs => some (kvs.map fun p => .tup (p.1.map keyT))
  | _ => none
def boolsOf : List T → Option (List Bool)
  | [] => some []
  | .bl b :: ts => (boolsOf ts).map (b :: ·)
  | _ :: _ => none
def intsOf : List T → Option (List Int)
  | [] => some []
  | .int b :: ts => (intsOf ts).map (b :: ·)
  | _ :: _ => none
def strsOf : List T → Option (List Str)
  | [] => some []
  | .str b :: ts => (strsOf ts).map (b :: ·)
  | _ :: _ => none
/-- built-in functions of one argument -/
inductive P1 where | len | abs | int | list | tuple | sum | any | all | max | min | str
  deriving DecidableEq
def greatest : List Int → Option Int
  | [] => none
  | x :: xs => some (xs.foldl max x)
def least : List Int → Option Int
  | [] => none
  | x :: xs => some (xs.foldl min x)
def prim1 (p : P1) (x : T) : Option R :=
  match p with
  | .len => (lenT x).map fun (n : Nat) => (false, .int (n : Int))
  | .abs => match x with
    | .int i => some (false, .int (if i < 0 then -i else i))
    | _ => none
  | .int => match x with
    | .int i => some (false, .int i)
    | .bl b => some (false, .int (if b then 1 else 0))
    | _ => none
  | .list => (itemsT x).map fun xs => (true, .lst xs)
  | .tuple => match x with
    | .lst xs => some (false, .tup xs)
    | .tup xs => some (false, .tup xs)
    | _ => none
  | .sum => match x with
    | .lst xs => (intsOf xs).map fun ns => (false, .int ns.sum)
    | _ => none
  | .any => match x with
    | .lst xs => (boolsOf xs).map fun bs => (false, .bl (bs.any id))
    | _ => none
  | .all => match x with
    | .lst xs => (boolsOf xs).map fun bs => (false, .bl (bs.all id))
    | _ => none
  | .max => match x with
    | .lst xs => ((intsOf xs).bind greatest).map fun n => (false, .int n)
    | _ => none
  | .min => match x with
    | .lst xs => ((intsOf xs).bind least).map fun n => (false, .int n)
    | _ => none
  | .str => match x with
    | .int i => if i.natAbs.log2 < 1920 then some (false, .str (toString i)) else none
    | _ => none
inductive P2 where | max | min
  deriving DecidableEq
def prim2 (p : P2) (x y : T) : Option R :=
  match p, x, y with
  | .max, .int i, .int j => some (false, .int (if j > i then j else i))
  | .min, .int i, .int j => some (false, .int (if j < i then j else i))
  | _, _, _ => none
/-- isinstance -/
inductive Cl where | ty (n : String) | own (C : Str)
  deriving DecidableEq
def T.ty : T → Option String
  | .non => some "NoneType" | .bl _ => some "bool" | .int _ => some "int" | .str _ => some "str"
  | .lst _ => some "list" | .tup _ => some "tuple" | .dK _ => some "dict" | .dT _ => some "dict"
  | _ => none
def subTy (n m : String) : Bool := n == m || (n == "bool" && m == "int")
def T.isi (t : T) (c : Cl) : Option Bool := match c with
  | .ty m => match t with
    | .ins _ _ => some false
    | t => t.ty.map fun n => subTy n m
  | .own D => match t with
    | .ins C _ => some (C == D)
    | t => t.ty.map fun _ => false
def T.isis (t : T) : List Cl → Option Bool
  | [] => some false
  | c :: cs => match t.isi c, t.isis cs with
    | some a, some b => some (a || b)
    | _, _ => none
end PB
end
section
set_option Elab.async false
set_option linter.all false
set_option maxRecDepth 100000
/-! PB2: the language and its evaluator. -/
namespace PB
open PySem L2

inductive Tg where
  | nm (i : Nat) | tp (l : List Tg)
mutual
def Tg.slots : Tg → List Nat
  | .nm i => [i]
  | .tp l => Tg.slotss l
def Tg.slotss : List Tg → List Nat
  | [] => []
  | g :: gs => Tg.slots g ++ Tg.slotss gs
end
inductive Mu where | append | extend | pop | popAt | insert
  deriving DecidableEq
mutual
inductive Ex where
  | var (i : Nat) | con (t : T)
  | bin (o : Bop) (a b : Ex) | neg (a : Ex)
  | cmp (o : Cop) (a b : Ex) | chain (o p : Cop) (a b c : Ex)
  | and (es : List Ex) | or (es : List Ex) | not (a : Ex) | ife (c a b : Ex)
  | lst (es : List Ex) | tup (es : List Ex) | dnew (t : Bool) | d1 (k v : Ex)
  | call (f : Nat) (es : List Ex) | meth (o : Ex) (C m : Str) (f : Nat) (es : List Ex)
  | p1 (p : P1) (a : Ex) | p2 (p : P2) (a b : Ex) | isi (a : Ex) (cs : List Cl)
  | fld (o : Ex) (f : Str) | ix (a i : Ex) | sl (a : Ex) (lo hi : Option Ex) | rev (a : Ex)
  | lrng (a : Ex) | lrng2 (a b : Ex) | get1 (d k : Ex) | get2 (d k x : Ex)
  | mut (i : Nat) (m : Mu) (es : List Ex)
  | comp (elt : Ex) (own : List Nat) (g : Tg) (it : It) (ifs : List Ex)
  | dcomp (b : Bool) (k v : Ex) (own : List Nat) (g : Tg) (it : It) (ifs : List Ex)
  | told (l : Bool) (body : Ex) (hs : List (Str × List Str × Str))
inductive It where
  | seq (e : Ex) | rng (a : Ex) | rng2 (a b : Ex) | enum (e : Ex) | zip (a b : Ex)
end
inductive St where
  | asg (g : Tg) (e : Ex) | par (is : List Nat) (es : List Ex) | put (i : Nat) (k e : Ex) | fld (i : Nat) (f : Str) (e : Ex)
  | ex (e : Ex) | ife (c : Ex) (a b : List St) | whl (c : Ex) (b : List St) | for (g : Tg) (it : It) (b : List St)
  | ret (e : Ex) | retN | rse (C : Str) (fs : List Str) (es : List Ex) | pass | brk | cont | aug (i : Nat) (o : Bop) (e : Ex)

abbrev Orc := Nat → List T → Option Draw → Option (Out R × Option Draw)

def Ex.isVar : Ex → Bool
  | .var _ => true
  | _ => false
/-! nothing that a slot alone holds is changed by it -/
mutual
def Ex.quiet : Ex → Bool
  | .var _ | .con _ | .dnew _ => true
  | .neg a | .not a | .p1 _ a | .isi a _ | .fld a _ | .rev a | .lrng a => a.quiet
  | .bin _ a b | .cmp _ a b | .p2 _ a b | .ix a b | .lrng2 a b | .get1 a b | .d1 a b => a.quiet && b.quiet
  | .chain _ _ a b c | .ife a b c | .get2 a b c => a.quiet && b.quiet && c.quiet
  | .and es | .or es | .lst es | .tup es | .call _ es => Ex.quiets es
  | .meth o _ _ _ es => o.quiet && Ex.quiets es
  | .sl a none none => a.quiet
  | .sl a (some b) none => a.quiet && b.quiet
  | .sl a none (some c) => a.quiet && c.quiet
  | .sl a (some b) (some c) => a.quiet && b.quiet && c.quiet
  | .mut _ _ _ => false
  | .comp e _ _ it ifs => e.quiet && it.quiet && Ex.quiets ifs
  | .dcomp _ k v _ _ it ifs => k.quiet && v.quiet && it.quiet && Ex.quiets ifs
  | .told _ _ _ => false
def It.quiet : It → Bool
  | .seq e | .rng e | .enum e => e.quiet
  | .rng2 a b | .zip a b => a.quiet && b.quiet
def Ex.quiets : List Ex → Bool
  | [] => true
  | e :: es => e.quiet && Ex.quiets es
end

/-! ### slots -/
def rd (i : Nat) : M R := fun e => match e.s[i]? with
  | some (some r) => some (.ok r, e)
  | _ => none
/-- the slot's object is no more its alone -/
def frz1 (i : Nat) (s : List (Option R)) : List (Option R) := match s[i]? with
  | some (some (true, t)) => s.set i (some (false, t))
  | _ => s
def frzV : List Ex → List (Option R) → List (Option R)
  | [], s => s
  | .var i :: es, s => frzV es (frz1 i s)
  | _ :: es, s => frzV es s
mutual
def bindT : Tg → T → List (Option R) → Option (List (Option R))
  | .nm i, t, s => if 0 < i ∧ i < s.length then some (s.set i (some (false, t))) else none
  | .tp l, .tup ts, s => if l.length = ts.length then bindTs l ts s else none
  | .tp l, .lst ts, s => if l.length = ts.length then bindTs l ts s else none
  | .tp _, _, _ => none
def bindTs : List Tg → List T → List (Option R) → Option (List (Option R))
  | [], [], s => some s
  | g :: gs, t :: ts, s => match bindT g t s with
    | some s' => bindTs gs ts s'
    | none => none
  | _, _, _ => none
end
def asgR (g : Tg) (r : R) (s : List (Option R)) : Option (List (Option R)) := match g with
  | .nm i => if 0 < i ∧ i < s.length then some (s.set i (some r)) else none
  | g => bindT g r.2 s
def setAll : List Nat → List R → List (Option R) → Option (List (Option R))
  | [], [], s => some s
  | i :: is, r :: rs, s => if 0 < i ∧ i < s.length then setAll is rs (s.set i (some r)) else none
  | _, _, _ => none
def wipeT (s : List (Option R)) : List Nat → List (Option R)
  | [] => s
  | v :: vs => (wipeT s vs).set v none
/-- s2, with s's own content at these places -/
def back (s s2 : List (Option R)) : List Nat → List (Option R)
  | [] => s2
  | v :: vs => (back s s2 vs).set v (s[v]?.join)
def mutT (m : Mu) (x : T) (ts : List T) : Option (T × T) :=
  match m, x, ts with
  | .append, .lst xs, [t] => if xs.length < sizeLine then some (.lst (xs ++ [t]), .non) else none
  | .extend, .lst xs, [.lst ys] => if xs.length + ys.length ≤ sizeLine then some (.lst (xs ++ ys), .non) else none
  | .pop, .lst xs, [] => xs[xs.length - 1]?.map fun y => (.lst xs.dropLast, y)
  | .popAt, .lst xs, [.int i] => if decide (-(2 ^ 63) ≤ i) && decide (i < 2 ^ 63) then (ixN xs.length i).bind fun k => xs[k]?.map fun y => (.lst (xs.eraseIdx k), y) else none
  | .insert, .lst xs, [.int i, t] => if decide (xs.length < sizeLine) && decide (0 ≤ i) && decide (i < 2 ^ 63) then some (.lst (xs.take i.toNat ++ [t] ++ xs.drop i.toNat), .non) else none
  | _, _, _ => none
def mutS (i : Nat) (m : Mu) (ts : List T) : M R := fun e => match e.s[i]? with
  | some (some (true, x)) => match mutT m x ts with
    | some (x', y) => some (.ok (false, y), { e with s := e.s.set i (some (true, x')) })
    | none => none
  | _ => none
def isLst (i : Nat) : M Unit := fun e => match e.s[i]? with
  | some (some (true, .lst _)) => some (.ok (), e)
  | _ => none
def callO (C : Orc) (f : Nat) (es : List Ex) (ts : List T) : M R := fun e => match C f ts e.d with
  | none => none
  | some (.ok r, d) => some (.ok r, ⟨if hvR r then frzV es e.s else e.s, d⟩)
  | some (.exc c fs, d) => some (.exc c fs, ⟨frzV es e.s, d⟩)
def lookF (fs : List (Str × T)) (f : Str) : Option T := (fs.find? fun p => decide (p.1 = f)).map (·.2)
def fldT (x : T) (f : Str) : Option T := match x with
  | .ins _ fs => lookF fs f
  | _ => none
/-- an instance of the class, without a field m -/
def isIns (C m : Str) : T → Bool
  | .ins D fs => decide (D = C) && (lookF fs m).isNone
  | _ => false
def toldT (l : Bool) (ws : List Str) (t : T) : R := if l then (true, .lst (ws.map .str ++ [t])) else (false, .tup (ws.map .str ++ [t]))
def caught (l : Bool) (hs : List (Str × List Str × Str)) (C : Str) (fs : List (Str × T)) : Option R :=
  match hs with
  | [] => none
  | (D, ws, f) :: r => if D = C then (lookF fs f).map (toldT l ws) else caught l r C fs
def rngL (a b : Int) : List T := (List.range (b - a).toNat).map fun (k : Nat) => .int (a + (k : Int))
def okR : Int → Bool
  | .ofNat n => Nat.ble n 4611686018427387903
  | .negSucc n => Nat.ble n 4611686018427387903
theorem okR_iff {i : Int} : okR i = true ↔ -(2 ^ 62) ≤ i ∧ i < 2 ^ 62 := by
  cases i with
  | ofNat n =>
    simp only [okR, Nat.ble_eq]
    have : Int.ofNat n = (n : Int) := rfl
    omega
  | negSucc n =>
    simp only [okR, Nat.ble_eq]
    have : Int.negSucc n = -((n : Int) + 1) := by omega
    omega
/-- a walk over the items, one at a time, by k -/
def walkL {α : Type} (k : T → α → M α) : List T → α → M α
  | [], a => ret a
  | t :: ts, a => bnd (k t a) fun a' => walkL k ts a'
def noExc {α : Type} (m : M α) : M α := fun e => match m e with
  | some (.ok a, e') => some (.ok a, e')
  | _ => none
def bindM (g : Tg) (t : T) : M Unit := fun e => (bindT g t e.s).map fun s => (.ok (), { e with s := s })
def saved : M (List (Option R)) := fun e => some (.ok e.s, e)
def wiped (own : List Nat) : M Unit := fun e => some (.ok (), { e with s := wipeT e.s own })
def backM (s : List (Option R)) (own : List Nat) : M Unit := fun e => some (.ok (), { e with s := back s e.s own })
def toInt : T → Option Int
  | .int i => some i
  | _ => none
def pairT (p : T × T) : T := .tup [p.1, p.2]
def enumL (xs : List T) : List T := (xs.zipIdx).map fun p => .tup [.int p.2, p.1]
def seqOf : T → Option (List T)
  | .lst xs => some xs
  | .tup xs => some xs
  | _ => none
/-- .. or a text's signs -/
def seqS : T → Option (List T)
  | .str z => some (z.cps.toList.map fun c => .str ⟨#[c]⟩)
  | t => seqOf t
def sameKind : T → T → Bool
  | .lst _, .lst _ => true
  | .tup _, .tup _ => true
  | _, _ => false

/-- e's value to be looked at: a name's object stays its slot's -/
def rdm (e : Ex) (m : M R) : M T := match e with
  | .var i => bnd (rd i) fun r => ret r.2
  | _ => bnd m fun r => ret r.2
def tsm (e : Ex) (m : M R) : M Bool := bnd (rdm e m) fun t => opt t.tru
def lightM (t : T) : M R := opt (if t.hv then none else some (false, t))
def exQ : Option Ex → Bool
  | none => true
  | some e => e.quiet
/-- a name's dict that is walked: it stands still meanwhile -/
def dictAt (it : It) (s : List (Option R)) : Option (Nat × List T) := match it with
  | .seq (.var i) => (match s[i]? with
    | some (some (_, x)) => if x.isD then (itemsT x).map fun l => (i, l) else none
    | _ => none)
  | _ => none
def itD (it : It) (m : M (List T)) (k : List T → M R) : M R := fun e => match dictAt it e.s with
  | some (i, xs) => k xs { e with s := frz1 i e.s }
  | none => bnd m k e
def gdA (i : Nat) (e : Ex) : M Unit := fun v => match v.s[i]? with
  | some (some (true, _)) => if e.quiet then some (.ok (), v) else none
  | some (some (false, _)) => some (.ok (), v)
  | _ => none
def gd (a : Ex) (q : Bool) : M Unit := chk (!a.isVar || q)

section
variable (C : Orc)
mutual
def ev : Ex → M R
  | .var i => fun e => match e.s[i]? with
    | some (some (_, t)) => some (.ok (false, t), { e with s := frz1 i e.s })
    | _ => none
  | .con t => ret (false, t)
  | .bin o a b => bnd (gd a b.quiet) fun _ => bnd (rdm a (ev a)) fun x => bnd (rdm b (ev b)) fun y => opt (binT o x y)
  | .neg a => bnd (rdm a (ev a)) fun x => opt ((toInt x).map fun i => (false, .int (-i)))
  | .cmp o a b => bnd (gd a b.quiet) fun _ => bnd (rdm a (ev a)) fun x => bnd (rdm b (ev b)) fun y => opt ((cmpT o x y).map fun k => (false, .bl k))
  | .chain o p a b c => bnd (gd a b.quiet) fun _ => bnd (gd b c.quiet) fun _ => bnd (rdm a (ev a)) fun x => bnd (rdm b (ev b)) fun y => bnd (opt (cmpT o x y)) fun k =>
      if k then bnd (rdm c (ev c)) fun z => opt ((cmpT p y z).map fun k => (false, .bl k)) else ret (false, .bl false)
  | .and es => evAnd es
  | .or es => evOr es
  | .not a => bnd (tsm a (ev a)) fun k => ret (false, .bl (!k))
  | .ife c a b => bnd (tsm c (ev c)) fun k => if k then ev a else ev b
  | .lst es => bnd (evs es) fun ts => bnd (chk (decide (ts.length ≤ sizeLine))) fun _ => ret (true, .lst ts)
  | .tup es => bnd (evs es) fun ts => bnd (chk (decide (ts.length ≤ sizeLine))) fun _ => ret (false, .tup ts)
  | .dnew t => ret (true, if t then .dT [] else .dK [])
  | .d1 k v => bnd (rdm k (ev k)) fun x => bnd (ev v) fun y => opt (x.key.map fun q => (true, .dK [(q, y.2)]))
  | .call f es => bnd (evRs es) fun ts => callO C f es ts
  | .meth o Cn m f es => bnd (gd o (Ex.quiets es)) fun _ => bnd (rdm o (ev o)) fun x => bnd (chk (isIns Cn m x)) fun _ => bnd (evRs es) fun ts => callO C f (o :: es) (x :: ts)
  | .p1 p a => bnd (rdm a (ev a)) fun x => opt (prim1 p x)
  | .p2 p a b => bnd (gd a b.quiet) fun _ => bnd (rdm a (ev a)) fun x => bnd (rdm b (ev b)) fun y => opt (prim2 p x y)
  | .isi a cs => bnd (rdm a (ev a)) fun x => opt ((x.isis cs).map fun k => (false, .bl k))
  | .fld o f => bnd (rdm o (ev o)) fun x => opt ((fldT x f).map fun t => (false, t))
  | .ix a i => bnd (gd a i.quiet) fun _ => bnd (rdm a (ev a)) fun x => bnd (rdm i (ev i)) fun y => opt ((ixT x y).map fun t => (false, t))
  | .sl a lo hi => bnd (gd a (exQ lo && exQ hi)) fun _ => bnd (rdm a (ev a)) fun x => bnd (evO lo) fun l => bnd (evO hi) fun h => opt (slT x l h)
  | .rev a => bnd (rdm a (ev a)) fun x => opt (match x with | .lst xs => some (true, .lst xs.reverse) | _ => none)
  | .lrng a => bnd (rdm a (ev a)) fun x => opt ((toInt x).bind fun n => if okR n && decide (n ≤ sizeLine) then some (true, .lst (rngL 0 n)) else none)
  | .lrng2 a b => bnd (rdm a (ev a)) fun x => bnd (rdm b (ev b)) fun y => opt ((toInt x).bind fun m => (toInt y).bind fun n => if okR m && okR n && decide (n - m ≤ sizeLine) then some (true, .lst (rngL m n)) else none)
  | .get1 d k => bnd (gd d k.quiet) fun _ => bnd (rdm d (ev d)) fun x => bnd (chk x.isD) fun _ => bnd (rdm k (ev k)) fun y => opt ((dgetT x y).map fun o => (false, o.getD .non))
  | .get2 d k z => bnd (gd d (k.quiet && z.quiet)) fun _ => bnd (gd k z.quiet) fun _ => bnd (rdm d (ev d)) fun x => bnd (chk x.isD) fun _ => bnd (rdm k (ev k)) fun y => bnd (ev z) fun z => opt ((dgetT x y).map fun o => (false, o.getD z.2))
  | .mut i m es => bnd (isLst i) fun _ => bnd (evs es) fun ts => mutS i m ts
  | .comp elt own g it ifs => itD it (itL it) fun xs => noExc (bnd saved fun s =>
      bnd (walkL (fun t acc => bnd (wiped own) fun _ => bnd (bindM g t) fun _ => bnd (tsts ifs) fun k => if k then bnd (ev elt) fun r => bnd (chk (decide (acc.length < sizeLine))) fun _ => ret (acc ++ [r.2]) else ret acc) xs []) fun acc =>
      bnd (backM s own) fun _ => ret (true, .lst acc))
  | .dcomp tk k v own g it ifs => itD it (itL it) fun xs => noExc (bnd saved fun s =>
      bnd (walkL (fun t acc => bnd (wiped own) fun _ => bnd (bindM g t) fun _ => bnd (tsts ifs) fun b => if b then bnd (ev k) fun x => bnd (ev v) fun y => opt (dputT acc x.2 y.2) else ret acc) xs (if tk then .dT [] else .dK [])) fun acc =>
      bnd (backM s own) fun _ => ret (true, acc))
  | .told l body hs => fun e => match ev body e with
    | some (.ok r, e') => some (.ok (toldT l [Str.ofString "told"] r.2), e')
    | some (.exc c fs, e') => (match caught l hs c fs with
      | some r => some (.ok r, e')
      | none => none)
    | none => none
def evs : List Ex → M (List T)
  | [] => ret []
  | e :: es => bnd (ev e) fun r => bnd (evs es) fun ts => ret (r.2 :: ts)
def evRs : List Ex → M (List T)
  | [] => ret []
  | e :: es => bnd (gd e (Ex.quiets es)) fun _ => bnd (rdm e (ev e)) fun t => bnd (evRs es) fun ts => ret (t :: ts)
def evAnd : List Ex → M R
  | [] => fun _ => none
  | e :: es => match es with
    | [] => ev e
    | _ :: _ => bnd (rdm e (ev e)) fun t => bnd (opt t.tru) fun k => if k then evAnd es else lightM t
def evOr : List Ex → M R
  | [] => fun _ => none
  | e :: es => match es with
    | [] => ev e
    | _ :: _ => bnd (rdm e (ev e)) fun t => bnd (opt t.tru) fun k => if k then lightM t else evOr es
def tsts : List Ex → M Bool
  | [] => ret true
  | e :: es => bnd (tsm e (ev e)) fun k => if k then tsts es else ret false
def evP : List Ex → M (List R)
  | [] => ret []
  | e :: es => bnd (ev e) fun r => bnd (evP es) fun rs => ret (r :: rs)
def evO : Option Ex → M (Option Int)
  | none => ret none
  | some e => bnd (rdm e (ev e)) fun x => bnd (opt (toInt x)) fun i => ret (some i)
def itL : It → M (List T)
  | .seq e => bnd (ev e) fun r => opt (seqS r.2)
  | .rng a => bnd (rdm a (ev a)) fun x => opt ((toInt x).bind fun n => if okR n then some (rngL 0 n) else none)
  | .rng2 a b => bnd (rdm a (ev a)) fun x => bnd (rdm b (ev b)) fun y => opt ((toInt x).bind fun m => (toInt y).bind fun n => if okR m && okR n then some (rngL m n) else none)
  | .enum e => bnd (ev e) fun r => opt ((seqOf r.2).map enumL)
  | .zip a b => bnd (ev a) fun r => bnd (ev b) fun q => opt (if sameKind r.2 q.2 then (seqOf r.2).bind fun xs => (seqOf q.2).map fun ys => (xs.zip ys).map pairT else none)
end
end
end PB
end
section
set_option Elab.async false
set_option linter.all false
set_option maxRecDepth 100000
/-! PB3: statements, functions, calls by depth. -/
namespace PB
open PySem L2
inductive Fl where
  | next | brk | cont
  | ret (r : R)
  | exc (C : Str) (fs : List (Str × T))
abbrev SM := Ev → Option (Fl × Ev)
/-- an expression, then a statement's rest -/
def tob {α : Type} (m : M α) (k : α → SM) : SM := fun e => match m e with
  | none => none
  | some (.ok a, e') => k a e'
  | some (.exc C fs, e') => some (.exc C fs, e')
def nxt : SM := fun e => some (.next, e)
def slots (f : List (Option R) → Option (List (Option R))) : SM := fun e => (f e.s).map fun s => (.next, { e with s := s })
def retV (e : Ex) (m : M R) : SM := match e with
  | .var i => tob (rd i) fun r v => some (.ret r, v)
  | _ => tob m fun r v => some (.ret r, v)
def putS (i : Nat) (k v : T) : SM := fun e => match e.s[i]? with
  | some (some (true, x)) => match x with
    | .lst xs => match k with
      | .int j => match ixN xs.length j with
        | some n => some (.next, { e with s := e.s.set i (some (true, .lst (xs.set n v))) })
        | none => none
      | _ => none
    | _ => match dputT x k v with
      | some x' => some (.next, { e with s := e.s.set i (some (true, x')) })
      | none => none
  | _ => none
def putF (fs : List (Str × T)) (f : Str) (v : T) : List (Str × T) := match fs with
  | [] => [(f, v)]
  | p :: r => if p.1 = f then (f, v) :: r else p :: putF r f v
def fldS (i : Nat) (f : Str) (v : T) : SM := fun e => match e.s[i]? with
  | some (some (true, .ins C fs)) => if fs.length < 100 then some (.next, { e with s := e.s.set i (some (true, .ins C (putF fs f v))) }) else none
  | _ => none
/-- a loop over items -/
def forL (g : Tg) (b : SM) : List T → SM
  | [], e => some (.next, e)
  | t :: ts, e => match bindT g t e.s with
    | none => none
    | some s => match b { e with s := s } with
      | some (.next, e') => forL g b ts e'
      | some (.cont, e') => forL g b ts e'
      | some (.brk, e') => some (.next, e')
      | some (.ret r, e') => some (.ret r, e')
      | some (.exc C fs, e') => some (.exc C fs, e')
      | none => none
/-- a loop by a test, so many turns at most -/
def whlN (c : M Bool) (b : SM) : Nat → SM
  | 0, _ => none
  | n + 1, e => match c e with
    | none => none
    | some (.exc C fs, e') => some (.exc C fs, e')
    | some (.ok false, e') => some (.next, e')
    | some (.ok true, e') => match b e' with
      | some (.next, e2) => whlN c b n e2
      | some (.cont, e2) => whlN c b n e2
      | some (.brk, e2) => some (.next, e2)
      | some (.ret r, e2) => some (.ret r, e2)
      | some (.exc C fs, e2) => some (.exc C fs, e2)
      | none => none
def turns : Nat := 1000000
/-- the class's name and its fields, by the class's number -/
abbrev Xcs := Str → Option (List Str)
def seqM (a b : SM) : SM := fun e => match a e with
  | some (.next, e') => b e'
  | r => r
def noExS (m : SM) : SM := fun e => match m e with
  | some (.exc _ _, _) => none
  | r => r
section
variable (C : Orc)
mutual
def st : St → SM
  | .asg g e => tob (ev C e) fun r => slots (asgR g r)
  | .par is es => tob (evP C es) fun rs => slots (setAll is rs)
  | .put i k e => tob (ev C e) fun v => tob (rd i) fun _ => tob (rdm k (ev C k)) fun k => putS i k v.2
  | .fld i f e => tob (ev C e) fun v => tob (rd i) fun _ => fldS i f v.2
  | .ex e => tob (ev C e) fun _ => nxt
  | .ife c a b => tob (tsm c (ev C c)) fun k => if k then sts a else sts b
  | .whl c b => whlN (tsm c (ev C c)) (sts b) turns
  | .for g it b => fun e => match dictAt it e.s with
    | some (i, xs) => noExS (forL g (sts b) xs) { e with s := frz1 i e.s }
    | none => tob (itL C it) (fun xs => forL g (sts b) xs) e
  | .ret e => retV e (ev C e)
  | .retN => fun e => some (.ret (false, .non), e)
  | .rse X fs es => tob (evs C es) fun ts => fun e => if fs.length = ts.length then some (.exc X (fs.zip ts), e) else none
  | .pass => nxt
  | .brk => fun e => some (.brk, e)
  | .cont => fun e => some (.cont, e)
  | .aug i o e => tob (gdA i e) fun _ => tob (rd i) fun x => tob (rdm e (ev C e)) fun y => tob (opt (binT o x.2 y)) fun r => slots (asgR (.nm i) r)
def sts : List St → SM
  | [] => nxt
  | s :: ss => seqM (st s) (sts ss)
end
end
/-! ### functions -/
/-- one draw -/
def mixC (c cell : Int) : Int := (c * 6151 + cell + 5) % 2147483647
def fillD : List Int → Int → Int → List Int × Int × Int
  | [], a, c => ([], a, c)
  | x :: xs, a, c => if a = 0 then fillD xs (if (if x < 0 then -x else x) ≥ 1000000000000000000 then (if x < 0 then -x else x) else 0) (mixC c (if x < 0 then -x else x)) else (x :: xs, a, c)
def mixed (b c : Int) : Int := ((c + 7907 * b + 104723) ^ 5) % 2147483629
def drawn (b m many : Int) : Int := (((m * 48271 + 30011 * b + 31) ^ 3) % 1000000007) % many
def pickD (d : Draw) (many : Int) : Option (Int × Draw) :=
  if decide (0 < many) && decide (many < 1073741824) && decide (0 ≤ d.b) && decide (d.b < 2 ^ 40) && decide (0 ≤ d.c) && decide (d.c < 2 ^ 31) && decide (0 ≤ d.a) then
    match fillD d.cs d.a d.c with
    | (cs, a, c) => if 0 < a then some (a % many, ⟨cs, a / many, d.b + 1, c⟩) else some (drawn (d.b + 1) (mixed (d.b + 1) c) many, ⟨cs, a, d.b + 1, c⟩)
  else none
inductive Fd where
  | fn (ps n : Nat) (body : List St)
  | init (C : Str) (ps n : Nat) (body : List St)
  | start | pick
def args (ts : List T) (n : Nat) : List (Option R) := ts.map (fun t => some (false, t)) ++ List.replicate (n - ts.length) none
def runF (C : Orc) : Fd → List T → Option Draw → Option (Out R × Option Draw)
  | .fn ps n body, ts, d => if ts.length = ps then match sts C body ⟨args ts n, d⟩ with
      | some (.next, e) => some (.ok (false, .non), e.d)
      | some (.ret r, e) => some (.ok r, e.d)
      | some (.exc c fs, e) => some (.exc c fs, e.d)
      | _ => none
    else none
  | .init X ps n body, ts, d => if ts.length + 1 = ps then match sts C body ⟨some (true, .ins X []) :: (args ts (n - 1)), d⟩ with
      | some (.next, e) => (match e.s[0]? with
        | some (some (true, t)) => some (.ok (true, t), e.d)
        | _ => none)
      | some (.exc c fs, e) => some (.exc c fs, e.d)
      | _ => none
    else none
  | .start, [.scr ns], none => some (.ok (false, .tok), some ⟨ns, 0, 0, 29⟩)
  | .start, [.lst ts], none => (intsOf ts).map fun ns => (.ok (false, .tok), some ⟨ns, 0, 0, 29⟩)
  | .pick, [.tok, .int many], some d => (pickD d many).map fun p => (.ok (false, .int p.1), some p.2)
  | _, _, _ => none
/-- what a call costs besides -/
def costF : Fd × Bool → Nat
  | (.init .., false) => 1
  | (.init .., true) => 3
  | (_, false) => 0
  | (_, true) => 2
/-- calls nested so deep -/
def callN (Γ : List (Fd × Bool)) (n : Nat) : Orc := match n with
  | 0 => fun _ _ _ => none
  | n + 1 => fun f ts d => match Γ[f]? with
    | some F => if costF F ≤ n then runF (callN Γ (n - costF F)) F.1 ts d else none
    | none => none
termination_by n
decreasing_by omega
theorem callN_0 (Γ : List (Fd × Bool)) (f : Nat) (ts : List T) (d : Option Draw) : callN Γ 0 f ts d = none := by
  rw [callN]
theorem callN_s (Γ : List (Fd × Bool)) (n f : Nat) (ts : List T) (d : Option Draw) : callN Γ (n + 1) f ts d = match Γ[f]? with
    | some F => if costF F ≤ n then runF (callN Γ (n - costF F)) F.1 ts d else none
    | none => none := by
  rw [callN]
theorem callN_at {Γ : List (Fd × Bool)} {f : Nat} {F : Fd × Bool} (h : Γ[f]? = some F) (n : Nat) (ts : List T) (d : Option Draw) : callN Γ (n + costF F + 1) f ts d = runF (callN Γ n) F.1 ts d := by
  rw [callN_s, h]
  simp only
  rw [if_pos (by omega), Nat.add_sub_cancel]
end PB
end
section
set_option Elab.async false
set_option linter.all false
set_option maxRecDepth 100000
/-! PB4: from the model's syntax to the language. -/
namespace PB
open PySem L2
/-- a def that hands its argument's call to handlers: whether a list comes, the handlers -/
structure Told where
  l : Bool
  hs : List (Str × List Str × Str)
/-- the module's names: defs and classes by number, methods (class, number), constants, exceptions' fields, tellers -/
structure Tab where
  fn : List (Str × Nat × Nat)
  mt : List (Str × Str × Nat × Nat)
  fl : List Str
  co : List (Str × Str)
  cl : List Str
  xc : List (Str × List Str)
  td : List (Str × Told)
  tk : List Str
def slotOf (N : List Str) (sc : Scope) (x : Str) : Option Nat := if (x == ("__debug__" : Str)) || (x == ("__classdict__" : Str)) then none else
  match sc.names.lookup x with
  | some .local => N.findIdx? (· == x)
  | some .cell => N.findIdx? (· == x)
  | some .free => N.findIdx? (· == x)
  | _ => none
def isGl (sc : Scope) (x : Str) : Bool := match sc.names.lookup x with
  | some .globalImplicit => true
  | _ => false
def trTg (N : List Str) (sc : Scope) : Expr → Option Tg
  | .Name x _ => match sc.names.lookup x with
    | some .local => (N.findIdx? (· == x)).map .nm
    | some .cell => (N.findIdx? (· == x)).map .nm
    | _ => none
  | .Tuple [a, b] _ _ => match trTg N sc a, trTg N sc b with
    | some g, some h => some (.tp [g, h])
    | _, _ => none
  | .Tuple [a, b, c] _ _ => match trTg N sc a, trTg N sc b, trTg N sc c with
    | some g, some h, some i => some (.tp [g, h, i])
    | _, _, _ => none
  | .Tuple [a, b, c, d] _ _ => match trTg N sc a, trTg N sc b, trTg N sc c, trTg N sc d with
    | some g, some h, some i, some j => some (.tp [g, h, i, j])
    | _, _, _, _ => none
  | _ => none
def bopOf : Operator → Option Bop
  | .Add => some .add | .Sub => some .sub | .Mult => some .mul | .Mod => some .mod | .FloorDiv => some .fdiv | .Pow => some .pow
  | _ => none
def copOf : CmpOp → Option Cop
  | .Eq => some .eq | .NotEq => some .ne | .Lt => some .lt | .LtE => some .le | .Gt => some .gt | .GtE => some .ge
  | .Is => some .is | .IsNot => some .isn | .In => some .inn | .NotIn => some .nin
def conOf : Const → Option T
  | .none => some .non | .bool b => some (.bl b) | .int i => some (.int i) | .str s => some (.str s)
  | _ => none
def p1Of (x : Str) : Option P1 :=
  if x = Str.ofString "len" then some .len else if x = Str.ofString "abs" then some .abs else if x = Str.ofString "int" then some .int
  else if x = Str.ofString "list" then some .list else if x = Str.ofString "tuple" then some .tuple else if x = Str.ofString "sum" then some .sum
  else if x = Str.ofString "any" then some .any else if x = Str.ofString "all" then some .all else if x = Str.ofString "max" then some .max
  else if x = Str.ofString "min" then some .min else if x = Str.ofString "str" then some .str else none
def p2Of (x : Str) : Option P2 := if x = Str.ofString "max" then some .max else if x = Str.ofString "min" then some .min else none
def tyOf (x : Str) : Option Cl :=
  if x = Str.ofString "list" then some (.ty "list") else if x = Str.ofString "tuple" then some (.ty "tuple") else if x = Str.ofString "dict" then some (.ty "dict")
  else if x = Str.ofString "str" then some (.ty "str") else if x = Str.ofString "int" then some (.ty "int") else if x = Str.ofString "bool" then some (.ty "bool") else none
def muOf (m : Str) (n : Nat) : Option Mu :=
  if m = Str.ofString "append" then (if n = 1 then some .append else none) else if m = Str.ofString "extend" then (if n = 1 then some .extend else none)
  else if m = Str.ofString "pop" then (if n = 0 then some .pop else if n = 1 then some .popAt else none) else if m = Str.ofString "insert" then (if n = 2 then some .insert else none) else none
/-- a def's scope that has names of its own: lambdas may be made there -/
def okLam (sc : Scope) : Bool := sc.names.any fun y => decide (y.2 = .local) || decide (y.2 = .cell)
/-- the comprehension's own names with their places -/
def ownOf (N : List Str) (cs : Scope) : List (Str × Nat) := cs.names.filterMap fun y => match y.2 with
  | .local => (N.findIdx? (· == y.1)).map fun i => (y.1, i)
  | .cell => (N.findIdx? (· == y.1)).map fun i => (y.1, i)
  | _ => none
def isN (sc : Scope) (f : Str) (x : String) : Bool := isGl sc f && decide (f = Str.ofString x)
def it1 (sc : Scope) (f : Str) (a e : Option Ex) : Option It :=
  if isN sc f "range" then a.map .rng else if isN sc f "enumerate" then a.map .enum else e.map .seq
def it2 (sc : Scope) (f : Str) (a b e : Option Ex) : Option It :=
  if isN sc f "range" then (match a, b with | some a, some b => some (.rng2 a b) | _, _ => none) else if isN sc f "zip" then (match a, b with | some a, some b => some (.zip a b) | _, _ => none) else e.map .seq
def notSet : Expr → Bool
  | .Set _ _ _ => false
  | _ => true
/-- a test that has its own rule -/
def tstOk : Expr → Bool
  | .IfExp _ _ _ _ => false
  | .Compare _ [_] _ _ => true
  | .Compare _ [_, _] _ _ => true
  | .Compare _ _ _ _ => false
  | _ => true
mutual
/-- names of the block only -/
def locTg (cs sc : Scope) : Expr → Bool
  | .Name x _ => sc.names.lookup x == some .local || (sc.names.lookup x == some .cell && cs.names.lookup x == some .cell)
  | .Tuple es _ _ => locTgs cs sc es
  | _ => false
def locTgs (cs sc : Scope) : List Expr → Bool
  | [] => true
  | e :: es => locTg cs sc e && locTgs cs sc es
end
/-- pairs are unpacked at once -/
def okTg (tg : Expr) : It → Bool
  | .enum _ => (match tg with | .Tuple _ _ _ => true | _ => false)
  | .zip _ _ => (match tg with | .Tuple _ _ _ => true | _ => false)
  | _ => true
def okC (N : List Str) (sc cs : Scope) (g : Tg) (it : It) (ifs : List Ex) (tg iter : Expr) (tests : List Expr) : Bool :=
  okLam sc && decide (ifs.length ≤ 1) && notSet iter && tests.all tstOk && locTg cs (relS cs sc) tg && blkC N sc cs (ownOf N cs) && okTg tg it && g.slots.all fun i => ((ownOf N cs).map (·.2)).contains i
section
variable (τ : Tab) (N : List Str)
def callX (f : Str) (es : List Ex) : Option Ex := match τ.fn.lookup f with
  | some (k, n) => if n = es.length then some (.call k es) else none
  | none => none
def call1 (f : Str) (a : Ex) : Option Ex := match p1Of f with
  | some p => some (.p1 p a)
  | none => callX τ f [a]
def call2 (f : Str) (a b : Ex) : Option Ex := match p2Of f with
  | some p => some (.p2 p a b)
  | none => callX τ f [a, b]
def okBase : Expr → Bool
  | .Call (.Name _ _) [] [] _ => false
  | _ => true
def methX (sc : Scope) (o : Expr) (ot : Option Ex) (m : Str) (es : List Ex) : Option Ex :=
  if okBase o = false || decide (29 ≤ es.length) then none else
  match muOf m es.length with
  | some u => match o with
    | .Name x _ => (slotOf N sc x).map fun i => .mut i u es
    | _ => none
  | none => match ot with
    | none => none
    | some ot => if m = Str.ofString "get" then (match es with
        | [k] => some (.get1 ot k)
        | [k, x] => some (.get2 ot k x)
        | _ => none)
      else match τ.mt.lookup m with
        | some (c, k, n) => if n = es.length then some (.meth ot c m k es) else none
        | none => none
def clOf (sc : Scope) : Expr → Option Cl
  | .Name x _ => if isGl sc x then (match tyOf x with
    | some c => some c
    | none => if τ.cl.contains x then some (.own x) else none) else none
  | _ => none
def clsOf (sc : Scope) : List Expr → Option (List Cl)
  | [] => some []
  | e :: es => match clOf τ sc e, clsOf sc es with
    | some c, some cs => some (c :: cs)
    | _, _ => none
/-- a key that is a tuple by its text -/
def isTk : Expr → Bool
  | .Tuple _ _ _ => true
  | .Call (.Name f _) _ _ _ => decide (f = Str.ofString "tuple") || τ.tk.contains f
  | _ => false
def isiOf (sc : Scope) : Expr → Option (List Cl)
  | .Tuple cs _ _ => if decide (cs.length ≤ 20) && decide (1 ≤ cs.length) then clsOf τ sc cs else none
  | e => (clOf τ sc e).map fun c => [c]
mutual
def trE (sc : Scope) : Expr → Option Ex
  | .Name x _ => match slotOf N sc x with
    | some i => some (.var i)
    | none => if isGl sc x then (τ.co.lookup x).map fun s => .con (.str s) else none
  | .Constant c _ _ => (conOf c).map .con
  | .BinOp a o b _ => match bopOf o, trE sc a, trE sc b with
    | some o, some a, some b => some (.bin o a b)
    | _, _, _ => none
  | .UnaryOp .USub a _ => (trE sc a).map .neg
  | .UnaryOp .Not a _ => if tstOk a then (trE sc a).map .not else none
  | .Compare a [o] [b] _ => match copOf o, trE sc a, trE sc b with
    | some o, some a, some b => some (.cmp o a b)
    | _, _, _ => none
  | .Compare a [o, p] [b, c] _ => match copOf o, copOf p, trE sc a, trE sc b, trE sc c with
    | some o, some p, some a, some b, some c => some (.chain o p a b c)
    | _, _, _, _, _ => none
  | .BoolOp .And es _ => if es.all tstOk && decide (2 ≤ es.length) then (trEs sc es).map .and else none
  | .BoolOp .Or es _ => if es.all tstOk && decide (2 ≤ es.length) then (trEs sc es).map .or else none
  | .IfExp c a b _ => match trE sc c, trE sc a, trE sc b with
    | some i, some a, some b => if tstOk c then some (.ife i a b) else none
    | _, _, _ => none
  | .List es _ => (trEs sc es).map .lst
  | .Tuple es _ _ => (trEs sc es).map .tup
  | .Dict [] [] _ => some (.dnew false)
  | .Dict [some k] [v] _ => match trE sc k, trE sc v with
    | some k, some v => some (.d1 k v)
    | _, _ => none
  | .Attribute o f _ => if okBase o && τ.fl.contains f then (trE sc o).map fun o => .fld o f else none
  | .Subscript a (.Slice none none (some (.UnaryOp .USub (.Constant (.int 1) _ _) _)) _) _ => (trE sc a).map .rev
  | .Subscript a (.Slice lo hi none _) _ => match trE sc a, trO sc lo, trO sc hi with
    | some a, some lo, some hi => some (.sl a lo hi)
    | _, _, _ => none
  | .Subscript a i _ => match trE sc a, trE sc i with
    | some a, some i => some (.ix a i)
    | _, _ => none
  | .ListComp elt [⟨tg, iter, tests, 0⟩] cs _ =>
    match trI sc iter (trE sc iter), trTg N (relS cs sc) tg, trEs (relS cs sc) tests, trE (relS cs sc) elt with
    | some it, some g, some ifs, some elt => if okC N sc cs g it ifs tg iter tests then some (.comp elt ((ownOf N cs).map (·.2)) g it ifs) else none
    | _, _, _, _ => none
  | .DictComp kx v [⟨tg, iter, tests, 0⟩] cs _ =>
    match trI sc iter (trE sc iter), trTg N (relS cs sc) tg, trEs (relS cs sc) tests, trE (relS cs sc) kx, trE (relS cs sc) v with
    | some it, some g, some ifs, some k, some v => if okC N sc cs g it ifs tg iter tests && isTk τ kx then some (.dcomp true k v ((ownOf N cs).map (·.2)) g it ifs) else none
    | _, _, _, _, _ => none
  | .Call (.Name f _) [] [] _ => if isGl sc f then callX τ f [] else none
  | .Call (.Name f _) [a] [] _ => if isGl sc f then trA sc f a (trE sc a) else none
  | .Call (.Name f _) [a, b] [] _ => if isN sc f "isinstance" then (match trE sc a, isiOf τ sc b with
      | some a, some cs => some (.isi a cs)
      | _, _ => none)
    else if isGl sc f then (match trE sc a, trE sc b with
      | some a, some b => call2 τ f a b
      | _, _ => none) else none
  | .Call (.Name f _) (a :: b :: c :: es) [] _ => if isGl sc f then (match trE sc a, trE sc b, trE sc c, trEs sc es with
      | some a, some b, some c, some es => callX τ f (a :: b :: c :: es)
      | _, _, _, _ => none) else none
  | .Call (.Attribute o m ap) es [] cp => if ap.endLine == cp.line then (trEs sc es).bind (methX τ N sc o (trE sc o) m) else none
  | _ => none
def trEs (sc : Scope) : List Expr → Option (List Ex)
  | [] => some []
  | e :: es => match trE sc e, trEs sc es with
    | some e, some es => some (e :: es)
    | _, _ => none

def trI (sc : Scope) : Expr → Option Ex → Option It
  | .Call (.Name f _) [a] [] _, e => it1 sc f (trE sc a) e
  | .Call (.Name f _) [a, b] [] _, e => it2 sc f (trE sc a) (trE sc b) e
  | _, e => e.map .seq
def trA (sc : Scope) (f : Str) : Expr → Option Ex → Option Ex
  | .Lambda ⟨[], [], none, [], [], none, []⟩ body ls _, _ => match τ.td.lookup f, trE ls body with
    | some t, some b => if okLam sc && LamX.lamSB sc ls then some (.told true b t.hs) else none
    | _, _ => none
  | .Call (.Name g _) [b] [] _, e => if isN sc f "list" && isN sc g "range" then (trE sc b).map .lrng else e.bind (call1 τ f)
  | .Call (.Name g _) [b, c] [] _, e => if isN sc f "list" && isN sc g "range" then (match trE sc b, trE sc c with
      | some b, some c => some (.lrng2 b c)
      | _, _ => none) else e.bind (call1 τ f)
  | _, e => e.bind (call1 τ f)
def trO (sc : Scope) : Option Expr → Option (Option Ex)
  | none => some none
  | some e => (trE sc e).map some
end
def trIt (sc : Scope) (iter : Expr) : Option It := trI τ N sc iter (trE τ N sc iter)
def slotsOf (sc : Scope) : List Expr → Option (List Nat)
  | [] => some []
  | .Name x p :: es => match trTg N sc (.Name x p), slotsOf sc es with
    | some (.nm i), some is => some (i :: is)
    | _, _ => none
  | _ :: _ => none
/-- what swappedStores tells -/
def swS (sc : Scope) (ts vs : List Expr) : Option (Option (List Str)) :=
  if !(ts.length == 2 || ts.length == 3) || vs.length != ts.length then some none else
  if vs.any fun | .Starred .. => true | _ => false then some none else
  let line := (ts.head?.map (·.pos.line)).getD 0
  let names := ts.filterMap fun
    | .Name id pos => if sc.names.lookup id == some .local && pos.line == line then some id else none
    | _ => none
  if names.length != ts.length || names.eraseDups.length != names.length then some none else
  if vs.all (foldedForSure 8) then some none else
  if vs.all (constantsAlone 8) then none else
  some (some names)
/-- what swapsWith tells of a name -/
def swN (sc : Scope) (e : Expr) (x : Str) (px : Pos) : Bool := match e with
  | .ListComp _ _ s p => sc.names.lookup x == some .local && px.line == p.line && !(s.names.any fun (n, k) => n == x && (k == .local || k == .cell))
  | .DictComp _ _ _ s p => sc.names.lookup x == some .local && px.line == p.line && !(s.names.any fun (n, k) => n == x && (k == .local || k == .cell))
  | _ => false
def isCp : Expr → Bool
  | .ListComp _ _ _ _ => true
  | .DictComp _ _ _ _ _ => true
  | .SetComp _ _ _ _ => true
  | _ => false
def isDc : Expr → Bool
  | .DictComp _ _ _ _ _ => true
  | _ => false
def isSlice : Expr → Bool
  | .Slice _ _ _ _ => true
  | _ => false
/-- a dict whose keys are tuples: the names told so -/
def asT (dts : List Str) (x : Str) (e : Ex) : Ex := match e with
  | .dnew _ => .dnew (dts.contains x)
  | e => e
def asTs (dts : List Str) : List Expr → List Ex → List Ex
  | .Name x _ :: ts, e :: es => asT dts x e :: asTs dts ts es
  | _, es => es
variable (dts : List Str)
def trAsg (sc : Scope) (tg e : Expr) (et : Option Ex) : Option St := match tg with
  | .Name x p => if swN sc e x p && isDc e then none else match trTg N sc tg, et with
    | some g, some e => some (.asg g (asT dts x e))
    | _, _ => none
  | .Tuple ts _ _ => match e with
    | .Tuple vs _ _ => match slotsOf N sc ts, et, swS sc ts vs with
      | some is, some (.tup es), some _ => if is.Nodup && decide (es.length ≤ 64) then some (.par is (asTs dts ts es)) else none
      | _, _, _ => none
    | _ => match trTg N sc tg, et with
      | some g, some e => some (.asg g e)
      | _, _ => none
  | .Subscript (.Name x _) k _ => if isSlice k then none else match slotOf N sc x, trE τ N sc k, et with
    | some i, some k, some e => some (.put i k e)
    | _, _, _ => none
  | .Attribute (.Name x _) f _ => match slotOf N sc x, et with
    | some i, some e => if τ.fl.contains f then some (.fld i f e) else none
    | _, _ => none
  | _ => none
mutual
def trS (sc : Scope) : Stmt → Option St
  | .Assign [tg] e _ => trAsg τ N dts sc tg e (trE τ N sc e)
  | .Expr e _ => if isCp e then none else (trE τ N sc e).map .ex
  | .If c a b _ => match trE τ N sc c, trSs sc a, trSs sc b with
    | some i, some a, some b => if tstOk c then some (.ife i a b) else none
    | _, _, _ => none
  | .While c b [] _ => match trE τ N sc c, trSs sc b with
    | some i, some b => if tstOk c then some (.whl i b) else none
    | _, _ => none
  | .For tg it b [] _ => match trTg N sc tg, trIt τ N sc it, trSs sc b with
    | some g, some i, some b => if okTg tg i && notSet it then some (.for g i b) else none
    | _, _, _ => none
  | .Return (some e) _ => (trE τ N sc e).map .ret
  | .Return none _ => some .retN
  | .Raise (some (.Call (.Name X _) es [] _)) none _ => match τ.xc.lookup X, trEs τ N sc es with
    | some fs, some es => if isGl sc X && decide (es.length = 1) && decide (fs.length = 1) then some (.rse X fs es) else none
    | _, _ => none
  | .Pass _ => some .pass
  | .Break _ => some .brk
  | .Continue _ => some .cont
  | _ => none
def trSs (sc : Scope) : List Stmt → Option (List St)
  | [] => some []
  | s :: ss => match trS sc s, trSs sc ss with
    | some s, some ss => some (s :: ss)
    | _, _ => none
end
end
end PB
end
section
set_option Elab.async false
set_option linter.all false
set_option maxRecDepth 100000
/-! PB5: how values stand in the abstract heap; a step's frame. -/
namespace PB
open PySem PySem.Spec PyProof.Rows L2
/-- what stands still: objects, the draws' two lists, the script -/
def isTb : HO → Bool
  | .tbl _ => true
  | _ => false
/-- tables of code objects and what they tell -/
def isTx : HO → Bool
  | .tbl _ => true
  | .ext _ => true
  | _ => false
structure Wd where
  G : Hp
  tb : List (Addr × Str)
  gt : ∀ a o, G a = some o → isTb o = false
  dr : Option (Addr × Addr)
  sc : Addr
  ns : Option (List Int)
/-- the classes' addresses -/
structure Cad where
  ad : Str → Addr
  cl : List Str
  tb : List (Addr × Str)
section
variable (A : Cad)
mutual
def Fz (W : Wd) : T → V → Prop
  | .non, v => v = .non
  | .bl b, v => v = .bl b
  | .int i, v => v = .int i
  | .str s, v => v = .str s
  | .lst ts, v => ∃ a vs, v = .ref a ∧ W.G a = some (.lst vs) ∧ FzL W ts vs
  | .tup ts, v => ∃ a vs, v = .ref a ∧ W.G a = some (.tup vs) ∧ FzL W ts vs
  | .dK kvs, v => ∃ a ws, v = .ref a ∧ W.G a = some (.dK ws) ∧ FzK W kvs ws
  | .dT kvs, v => ∃ a ws, v = .ref a ∧ W.G a = some (.dT ws) ∧ FzT W kvs ws
  | .ins C fs, v => ∃ a dx ws, v = .ref a ∧ W.G a = some (.ins (A.ad C) dx ws) ∧ FzF W fs ws ∧ C ∈ A.cl
  | .tok, v => ∃ p q, W.dr = some (p, q) ∧ v = .ref p
  | .scr ns, v => v = .ref W.sc ∧ some ns = W.ns
def FzL (W : Wd) : List T → List V → Prop
  | [], [] => True
  | t :: ts, v :: vs => Fz W t v ∧ FzL W ts vs
  | _, _ => False
def FzK (W : Wd) : List (Key × T) → List (Key × V) → Prop
  | [], [] => True
  | (k, t) :: ts, (k', v) :: vs => k = k' ∧ Fz W t v ∧ FzK W ts vs
  | _, _ => False
def FzT (W : Wd) : List (List Key × T) → List (List Key × V) → Prop
  | [], [] => True
  | (k, t) :: ts, (k', v) :: vs => k = k' ∧ Fz W t v ∧ FzT W ts vs
  | _, _ => False
def FzF (W : Wd) : List (Str × T) → List (Str × V) → Prop
  | [], [] => True
  | (k, t) :: ts, (k', v) :: vs => k = k' ∧ Fz W t v ∧ FzF W ts vs
  | _, _ => False
end
/-- more stands still -/
structure Wd.le (W W' : Wd) : Prop where
  g : ∀ a o, W.G a = some o → W'.G a = some o
  d : ∀ x, W.dr = some x → W'.dr = some x
  s : W'.sc = W.sc
  t : W'.tb = W.tb
  n : W'.ns = W.ns
theorem Wd.le.refl (W : Wd) : W.le W := ⟨fun _ _ h => h, fun _ h => h, rfl, rfl, rfl⟩
theorem Wd.le.trans {W W' W2 : Wd} (a : W.le W') (b : W'.le W2) : W.le W2 :=
  ⟨fun x o h => b.g x o (a.g x o h), fun x h => b.d x (a.d x h), b.s.trans a.s, b.t.trans a.t, b.n.trans a.n⟩
mutual
theorem Fz.mono {W W' : Wd} (l : W.le W') : ∀ {t : T} {v : V}, Fz A W t v → Fz A W' t v
  | .non, _, h => by simpa [Fz] using h
  | .bl _, _, h => by simpa [Fz] using h
  | .int _, _, h => by simpa [Fz] using h
  | .str _, _, h => by simpa [Fz] using h
  | .lst ts, _, h => by
    simp only [Fz] at h ⊢
    obtain ⟨a, vs, e, g, r⟩ := h
    exact ⟨a, vs, e, l.g _ _ g, FzL.mono l r⟩
  | .tup ts, _, h => by
    simp only [Fz] at h ⊢
    obtain ⟨a, vs, e, g, r⟩ := h
    exact ⟨a, vs, e, l.g _ _ g, FzL.mono l r⟩
  | .dK ts, _, h => by
    simp only [Fz] at h ⊢
    obtain ⟨a, vs, e, g, r⟩ := h
    exact ⟨a, vs, e, l.g _ _ g, FzK.mono l r⟩
  | .dT ts, _, h => by
    simp only [Fz] at h ⊢
    obtain ⟨a, vs, e, g, r⟩ := h
    exact ⟨a, vs, e, l.g _ _ g, FzT.mono l r⟩
  | .ins C fs, _, h => by
    simp only [Fz] at h ⊢
    obtain ⟨a, dx, vs, e, g, r, hc⟩ := h
    exact ⟨a, dx, vs, e, l.g _ _ g, FzF.mono l r, hc⟩
  | .tok, _, h => by
    simp only [Fz] at h ⊢
    obtain ⟨p, q, e, g⟩ := h
    exact ⟨p, q, l.d _ e, g⟩
  | .scr ns, _, h => by
    simp only [Fz] at h ⊢
    rw [l.s, l.n]
    exact h
theorem FzL.mono {W W' : Wd} (l : W.le W') : ∀ {t : List T} {v : List V}, FzL A W t v → FzL A W' t v
  | [], [], _ => by simp only [FzL]
  | t :: ts, v :: vs, h => by
    simp only [FzL] at h ⊢
    exact ⟨Fz.mono l h.1, FzL.mono l h.2⟩
  | [], _ :: _, h => by simp only [FzL] at h
  | _ :: _, [], h => by simp only [FzL] at h
theorem FzK.mono {W W' : Wd} (l : W.le W') : ∀ {t : List (Key × T)} {v : List (Key × V)}, FzK A W t v → FzK A W' t v
  | [], [], _ => by simp only [FzK]
  | (k, t) :: ts, (k', v) :: vs, h => by
    simp only [FzK] at h ⊢
    exact ⟨h.1, Fz.mono l h.2.1, FzK.mono l h.2.2⟩
  | [], _ :: _, h => by simp only [FzK] at h
  | _ :: _, [], h => by simp only [FzK] at h
theorem FzT.mono {W W' : Wd} (l : W.le W') : ∀ {t : List (List Key × T)} {v : List (List Key × V)}, FzT A W t v → FzT A W' t v
  | [], [], _ => by simp only [FzT]
  | (k, t) :: ts, (k', v) :: vs, h => by
    simp only [FzT] at h ⊢
    exact ⟨h.1, Fz.mono l h.2.1, FzT.mono l h.2.2⟩
  | [], _ :: _, h => by simp only [FzT] at h
  | _ :: _, [], h => by simp only [FzT] at h
theorem FzF.mono {W W' : Wd} (l : W.le W') : ∀ {t : List (Str × T)} {v : List (Str × V)}, FzF A W t v → FzF A W' t v
  | [], [], _ => by simp only [FzF]
  | (k, t) :: ts, (k', v) :: vs, h => by
    simp only [FzF] at h ⊢
    exact ⟨h.1, Fz.mono l h.2.1, FzF.mono l h.2.2⟩
  | [], _ :: _, h => by simp only [FzF] at h
  | _ :: _, [], h => by simp only [FzF] at h
end
/-- an object that its one slot holds alone -/
def OwnO (W : Wd) (o : HO) : T → Prop
  | .lst ts => ∃ vs, o = .lst vs ∧ FzL A W ts vs
  | .dK kvs => ∃ ws, o = .dK ws ∧ FzK A W kvs ws
  | .dT kvs => ∃ ws, o = .dT ws ∧ FzT A W kvs ws
  | .ins C fs => ∃ dx ws, o = .ins (A.ad C) dx ws ∧ FzF A W fs ws ∧ C ∈ A.cl
  | _ => False
def Own (W : Wd) (H : Hp) (t : T) (p : Addr) : Prop := W.G p = none ∧ ∃ o, H p = some o ∧ OwnO A W o t
theorem OwnO.mono {W W' : Wd} (l : W.le W') {o : HO} {t : T} (h : OwnO A W o t) : OwnO A W' o t := by
  cases t <;> simp only [OwnO] at h ⊢
  · obtain ⟨vs, e, r⟩ := h; exact ⟨vs, e, r.mono A l⟩
  · obtain ⟨vs, e, r⟩ := h; exact ⟨vs, e, r.mono A l⟩
  · obtain ⟨vs, e, r⟩ := h; exact ⟨vs, e, r.mono A l⟩
  · obtain ⟨dx, vs, e, r, hc⟩ := h; exact ⟨dx, vs, e, r.mono A l, hc⟩
theorem OwnO.nofrz {W : Wd} {o : HO} {ob : Obj} {t : T} (h : OwnO A W (.frz ob o) t) : False := by
  cases t <;> simp only [OwnO] at h
  · obtain ⟨vs, e, r⟩ := h; cases e
  · obtain ⟨vs, e, r⟩ := h; cases e
  · obtain ⟨vs, e, r⟩ := h; cases e
  · obtain ⟨dx, vs, e, r⟩ := h; cases e
/-- it stands still from now on -/
theorem OwnO.fz {W : Wd} {o : HO} {t : T} {p : Addr} (h : OwnO A W o t) (g : W.G p = some o) : Fz A W t (.ref p) := by
  cases t <;> simp only [OwnO] at h <;> simp only [Fz]
  · obtain ⟨vs, e, r⟩ := h; subst e; exact ⟨p, vs, rfl, g, r⟩
  · obtain ⟨vs, e, r⟩ := h; subst e; exact ⟨p, vs, rfl, g, r⟩
  · obtain ⟨vs, e, r⟩ := h; subst e; exact ⟨p, vs, rfl, g, r⟩
  · obtain ⟨dx, vs, e, r⟩ := h; subst e; exact ⟨p, dx, vs, rfl, g, r⟩
/-- the draws' lists; a table, as a pair -/
def IsDr (W : Wd) (d : Addr × Addr) : Prop := W.dr = some d ∨ (d.2 = d.1 ∧ ∃ q, (d.1, q) ∈ W.tb)
def NoDr (W : Wd) (a : Addr) : Prop := ∀ d, IsDr W d → a ≠ d.1 ∧ a ≠ d.2
/-- a slot's content is the object at p alone -/
def Ow (s : List (Option R)) (σ : L2.St) (i : Nat) (p : Addr) : Prop := (∃ t, s[i]? = some (some (true, t))) ∧ σ[i]? = some (some (.ref p))
def SlOk (W : Wd) (H : Hp) (r : R) (v : V) : Prop := if r.1 then ∃ p, v = .ref p ∧ Own A W H r.2 p else Fz A W r.2 v
def DrOk (W : Wd) (H : Hp) (d : Option Draw) : Prop := match d, W.dr with
  | none, none => True
  | some D, some (p, q) => p ≠ q ∧ W.G p = none ∧ W.G q = none ∧ H p = some (.lst [.ref q, .int D.a, .int D.b, .int D.c]) ∧ H q = some (.lst (D.cs.map V.int))
  | _, _ => False
def isDO : HO → Bool
  | .dK _ => true
  | .dT _ => true
  | _ => false
variable (K : PySem.W.Frag)
/-- the script: locked, or of the written part -/
def ScOk (W : Wd) (H : Hp) : Prop := (((W.ns.getD []).length ≤ 63 ∧ W.tb = A.tb) ∧ LamX.Tabs W.tb H) ∧ ((∃ o, H W.sc = some (.frz o (.lst ((W.ns.getD []).map V.int)))) ∨
    (∃ (o : Obj) (its : Array Value) (n : Nat), K.lookup W.sc = some o ∧ o.cls = .type "list" ∧ o.dict = none ∧ o.data = .seq its n ∧ its.size ≤ sizeLine ∧ Vals ((W.ns.getD []).map V.int) its.toList) ∨ W.ns = none)
structure EnvOk (W : Wd) (H : Hp) (σ : L2.St) (e : Ev) : Prop where
  le : ∀ a o, W.G a = some o → H a = some o ∨ (isDO o = true ∧ ∃ ob, H a = some (.frz ob o))
  dr : DrOk W H e.d
  sc : ScOk A K W H
  len : e.s.length = σ.length
  sl : ∀ (i : Nat) (r : R), e.s[i]? = some (some r) → ∃ v : V, σ[i]? = some (some v) ∧ SlOk A W H r v
  dj : ∀ i j p, Ow e.s σ i p → Ow e.s σ j p → i = j
  nd : ∀ i p, Ow e.s σ i p → NoDr W p
/-- from one state to another: what changes is the slots' own, the draws; the rest stays -/
structure Stp (q : Bool) (W : Wd) (H : Hp) (s : List (Option R)) (σ : L2.St) (W' : Wd) (H' : Hp) (s' : List (Option R)) : Prop where
  wle : W.le W'
  keep : ∀ a o, H a = some o → (q = true ∨ ∀ i, ¬ Ow s σ i a) → NoDr W a → H' a = some o
  dom : ∀ a, H' a = none → H a = none
  new : ∀ a o, W'.G a = some o → W.G a = some o ∨ (∃ i, Ow s σ i a) ∨ H a = none ∨ ∃ vs, o = .tup vs
  own : ∀ i p, Ow s' σ i p → Ow s σ i p
  drn : ∀ d, W'.dr = some d → W.dr = some d ∨ (H d.1 = none ∧ H d.2 = none)
theorem tabs_keep {T : List (Addr × Str)} {H H' : Hp} (t : LamX.Tabs T H) (k : ∀ b o, H b = some o → isTx o = true → H' b = some o) : LamX.Tabs T H' := fun p hp => by
  obtain ⟨ps, h1, h2, h3⟩ := t p hp
  refine ⟨ps, k _ _ h1 rfl, h2, fun pos cv hc => ?_⟩
  obtain ⟨c, e1, e2⟩ := h3 pos cv hc
  exact ⟨c, e1, k _ _ e2 rfl⟩
theorem tabs_upd {T : List (Addr × Str)} {H : Hp} {D : Addr} {o' : HO} (t : LamX.Tabs T H) (k : ∀ o, H D = some o → isTx o = false) : LamX.Tabs T (upd H D o') := tabs_keep t fun b o h1 h2 => by
  rw [upd_ne (fun z => by subst z; rw [k o h1] at h2; cases h2)]
  exact h1
theorem OwnO.tx {A : Cad} {W : Wd} {o : HO} {t : T} (h : OwnO A W o t) : isTx o = false := by
  cases t <;> simp only [OwnO] at h
  · obtain ⟨vs, e, r⟩ := h; subst e; rfl
  · obtain ⟨vs, e, r⟩ := h; subst e; rfl
  · obtain ⟨vs, e, r⟩ := h; subst e; rfl
  · obtain ⟨dx, vs, e, r, hc⟩ := h; subst e; rfl
theorem OwnO.tb {A : Cad} {W : Wd} {o : HO} {t : T} (h : OwnO A W o t) : isTb o = false := by
  have z := h.tx
  cases o <;> first | rfl | cases z
theorem isDO_tx {o : HO} (h : isDO o = true) : isTx o = false := by
  cases o <;> first | rfl | cases h
theorem Stp.refl (q : Bool) (W : Wd) (H : Hp) (s : List (Option R)) (σ : L2.St) : Stp q W H s σ W H s :=
  ⟨.refl W, fun _ _ h _ _ => h, fun _ h => h, fun _ _ h => .inl h, fun _ _ h => h, fun _ h => .inl h⟩
theorem Stp.nodr {q : Bool} {W W' : Wd} {H H' : Hp} {s s' : List (Option R)} {σ : L2.St} (a : Stp q W H s σ W' H' s') {x : Addr} (h : H x ≠ none) (n : NoDr W x) : NoDr W' x := fun d e => by
  rcases e with e | ⟨e1, q, e2⟩
  case inr => exact n d (.inr ⟨e1, q, by rw [← a.wle.t]; exact e2⟩)
  rcases a.drn d e with z | ⟨z1, z2⟩
  · exact n d (.inl z)
  · exact ⟨fun w => h (w ▸ z1), fun w => h (w ▸ z2)⟩
theorem Stp.trans {q : Bool} {W W' W2 : Wd} {H H' H2 : Hp} {s s' s2 : List (Option R)} {σ : L2.St} (a : Stp q W H s σ W' H' s') (b : Stp q W' H' s' σ W2 H2 s2) : Stp q W H s σ W2 H2 s2 where
  wle := a.wle.trans b.wle
  keep := fun x o h n d => b.keep x o (a.keep x o h n d) (n.imp id fun n i z => n i (a.own i x z)) (a.nodr (by rw [h]; simp) d)
  dom := fun x h => a.dom x (b.dom x h)
  new := fun x o h => by
    rcases b.new x o h with z | ⟨i, z⟩ | z | z
    · exact a.new x o z
    · exact .inr (.inl ⟨i, a.own i x z⟩)
    · exact .inr (.inr (.inl (a.dom x z)))
    · exact .inr (.inr (.inr z))
  own := fun i p h => a.own i p (b.own i p h)
  drn := fun d h => by
    rcases b.drn d h with z | ⟨z1, z2⟩
    · exact a.drn d z
    · exact .inr ⟨a.dom _ z1, a.dom _ z2⟩
theorem Stp.weak {q q' : Bool} {W W' : Wd} {H H' : Hp} {s s' : List (Option R)} {σ : L2.St} (a : Stp q W H s σ W' H' s') (h : q' = true → q = true) : Stp q' W H s σ W' H' s' :=
  ⟨a.wle, fun x o e n d => a.keep x o e (n.imp h id) d, a.dom, a.new, a.own, a.drn⟩
/-- a value to be looked at: it stands still, or is a slot's own or a new one -/
def Rv (W : Wd) (H : Hp) (t : T) (v : V) : Prop := Fz A W t v ∨ ∃ p, v = .ref p ∧ Own A W H t p
/-- .. and whose own it may be -/
def RvA (i : Option Nat) (W : Wd) (H : Hp) (s : List (Option R)) (σ : L2.St) (t : T) (v : V) : Prop :=
  (Fz A W t v ∨ ∃ p, v = .ref p ∧ Own A W H t p ∧ (∀ j, Ow s σ j p → i = some j) ∧ NoDr W p) ∧ ∀ j, i = some j → σ[j]? = some (some v) ∧ ((∃ p, Ow s σ j p) → t.rt = true)
theorem RvA.rv {i : Option Nat} {W : Wd} {H : Hp} {s : List (Option R)} {σ : L2.St} {t : T} {v : V} (h : RvA A i W H s σ t v) : Rv A W H t v := by
  rcases h.1 with h | ⟨p, e, h, _⟩
  · exact .inl h
  · exact .inr ⟨p, e, h⟩
/-- a result -/
def Res (H : Hp) (W' : Wd) (H' : Hp) (r : R) (v : V) : Prop := if r.1 then ∃ p, v = .ref p ∧ Own A W' H' r.2 p ∧ H p = none ∧ NoDr W' p else Fz A W' r.2 v
theorem Own.keep {q : Bool} {W W' : Wd} {H H' : Hp} {s s' : List (Option R)} {σ : L2.St} (st : Stp q W H s σ W' H' s') (le : ∀ a o, W'.G a = some o → H' a = some o ∨ (isDO o = true ∧ ∃ ob, H' a = some (.frz ob o)))
    {t : T} {p : Addr} (h : Own A W H t p) (n : q = true ∨ ∀ i, ¬ Ow s σ i p) (d : NoDr W p) : Rv A W' H' t (.ref p) := by
  obtain ⟨g, o, ho, r⟩ := h
  have h' := st.keep p o ho n d
  cases e : W'.G p with
  | none => exact .inr ⟨p, rfl, e, o, h', r.mono A st.wle⟩
  | some o' =>
    rcases le p o' e with z | ⟨_, ob, z⟩
    · rw [h'] at z
      cases z
      exact .inl (OwnO.fz A (r.mono A st.wle) e)
    · rw [h'] at z
      cases z
      exact (OwnO.nofrz A r).elim
theorem RvA.keep {i : Option Nat} {q : Bool} {W W' : Wd} {H H' : Hp} {s s' : List (Option R)} {σ : L2.St} (st : Stp q W H s σ W' H' s') (le : ∀ a o, W'.G a = some o → H' a = some o ∨ (isDO o = true ∧ ∃ ob, H' a = some (.frz ob o)))
    {t : T} {v : V} (h : RvA A i W H s σ t v) (n : i.isSome = true → q = true) : RvA A i W' H' s' σ t v := by
  obtain ⟨h, hs⟩ := h
  refine ⟨?_, fun j hj => ⟨(hs j hj).1, fun ⟨p, w⟩ => (hs j hj).2 ⟨p, st.own j p w⟩⟩⟩
  rcases h with h | ⟨p, e, h, n1, n2⟩
  · exact .inl (h.mono A st.wle)
  · subst e
    have m : q = true ∨ ∀ j, ¬ Ow s σ j p := by
      cases i with
      | none => exact .inr fun j w => nomatch n1 j w
      | some j => exact .inl (n rfl)
    rcases Own.keep A st le h m n2 with z | ⟨p', e', z⟩
    · exact .inl z
    · cases e'
      refine .inr ⟨p, rfl, z, fun j w => n1 j (st.own j p w), st.nodr ?_ n2⟩
      obtain ⟨_, o, ho, _⟩ := h
      rw [ho]; simp
end
end PB
end
section
set_option Elab.async false
set_option linter.all false
set_option maxRecDepth 100000
/-! PB6: readings by the evaluator; the first rules. -/
namespace PB
open PySem PySem.Spec PyProof.Rows L2
section
variable (A : Cad) (K : PySem.W.Frag) (XE : XK)
/-- an exception of the class named C that holds these fields -/
def ExOk (W : Wd) (H : Hp) (C : Str) (fs : List (Str × T)) (cls : Value) (d : Option Addr) : Prop :=
  cls = .ref (A.ad C) ∧ ∃ dd ws, d = some dd ∧ H dd = some (.xd ws) ∧ FzF A W fs ws
abbrev Rel (α β : Type) := Hp → List (Option R) → L2.St → Wd → Hp → List (Option R) → α → β → Prop
def Post {α β : Type} (q : Bool) (Rl : Rel α β) (W : Wd) (H : Hp) (s : List (Option R)) (σ : L2.St) (out : Out α) (e' : Ev) (Q : β → Hp → Prop) : Prop :=
  ∀ W' H', EnvOk A K W' H' σ e' → Stp q W H s σ W' H' e'.s → match out with
    | .ok a => ∀ v, Rl H s σ W' H' e'.s a v → Q v H'
    | .exc C fs => ∀ cls d, ExOk A W' H' C fs cls d → XE cls d H'
def tM {α β : Type} (q : Bool) (Rl : Rel α β) (m : M α) : L2.St → Hp → (β → Hp → Prop) → Prop := fun σ H Q =>
  ∃ W e out e', EnvOk A K W H σ e ∧ m e = some (out, e') ∧ Post A K XE q Rl W H e.s σ out e' Q
def rE : Rel R V := fun H _ _ W' H' _ r v => Res A H W' H' r v
def rR (i : Option Nat) : Rel T V := fun _ _ σ W' H' s' t v => RvA A i W' H' s' σ t v
/-- .. with where an own object comes from -/
def rN (i : Option Nat) : Rel T V := fun H s σ W' H' s' t v => RvA A i W' H' s' σ t v ∧ ∀ p, v = .ref p → Own A W' H' t p → H p = none ∨ ∃ j, Ow s σ j p
/-- an expression's value; its value to be looked at -/
abbrev tE (q : Bool) (m : M R) : TE := tM A K XE q (rE A) m
abbrev tN (i : Option Nat) (q : Bool) (m : M T) : TE := tM A K XE q (rN A i) m
abbrev tR (i : Option Nat) (q : Bool) (m : M T) : TE := tM A K XE q (rR A i) m
theorem bnd_some {α β : Type} {m : M α} {k : α → M β} {e e' : Ev} {out : Out β} (h : bnd m k e = some (out, e')) :
    (∃ a e1, m e = some (.ok a, e1) ∧ k a e1 = some (out, e')) ∨ ∃ C fs, m e = some (.exc C fs, e') ∧ out = .exc C fs := by
  unfold bnd at h
  cases q : m e with
  | none => rw [q] at h; cases h
  | some p =>
    obtain ⟨o, e1⟩ := p
    rw [q] at h
    cases o with
    | ok a => exact .inl ⟨a, e1, rfl, h⟩
    | exc C fs =>
      have h : some (Out.exc C fs, e1) = some (out, e') := h
      cases h
      exact .inr ⟨C, fs, rfl, rfl⟩
theorem opt_some {α : Type} {o : Option α} {e e' : Ev} {out : Out α} (h : opt o e = some (out, e')) : ∃ a, o = some a ∧ out = .ok a ∧ e' = e := by
  unfold opt at h
  cases o with
  | none => cases h
  | some a => cases h; exact ⟨a, rfl, rfl, rfl⟩
theorem chk_some {b : Bool} {e e' : Ev} {out : Out Unit} (h : chk b e = some (out, e')) : b = true ∧ out = .ok () ∧ e' = e := by
  unfold chk at h
  cases b with
  | false => cases h
  | true => cases h; exact ⟨rfl, rfl, rfl⟩
theorem bnd_opt {α β : Type} {o : Option α} {k : α → M β} {e e' : Ev} {out : Out β} (h : bnd (opt o) k e = some (out, e')) : ∃ a, o = some a ∧ k a e = some (out, e') := by
  rcases bnd_some h with ⟨a, e1, h1, h2⟩ | ⟨C, fs, h1, _⟩
  · obtain ⟨b, e2, e3, e4⟩ := opt_some h1
    cases e3; subst e4
    exact ⟨a, e2, h2⟩
  · obtain ⟨b, _, e3, _⟩ := opt_some h1
    cases e3
theorem bnd_chk {β : Type} {b : Bool} {k : Unit → M β} {e e' : Ev} {out : Out β} (h : bnd (chk b) k e = some (out, e')) : b = true ∧ k () e = some (out, e') := by
  rcases bnd_some h with ⟨a, e1, h1, h2⟩ | ⟨C, fs, h1, _⟩
  · obtain ⟨b, e2, e3⟩ := chk_some h1
    subst e3
    exact ⟨b, h2⟩
  · obtain ⟨_, e3, _⟩ := chk_some h1
    cases e3
theorem bnd_ret {α β : Type} {a : α} {k : α → M β} {e e' : Ev} {out : Out β} (h : bnd (ret a) k e = some (out, e')) : k a e = some (out, e') := h
variable {A K XE}
/-- the next part runs; what is wanted behind it -/
theorem step {α β γ δ : Type} {q q1 : Bool} {Rl : Rel α γ} {Rb : Rel β δ} {m : M α} {k : α → M β} {σ : L2.St} {H : Hp} {W : Wd} {e e' : Ev} {out : Out β} {Q : δ → Hp → Prop} {Q1 : γ → Hp → Prop} {W0 : Wd} {H0 : Hp} {s0 : List (Option R)}
    (hE : EnvOk A K W H σ e) (h0 : Stp q W0 H0 s0 σ W H e.s) (hm : bnd m k e = some (out, e')) (hp : Post A K XE q Rb W0 H0 s0 σ out e' Q) (hq : q = true → q1 = true)
    (hk : ∀ a e1 W1 H1 v, k a e1 = some (out, e') → EnvOk A K W1 H1 σ e1 → Stp q W0 H0 s0 σ W1 H1 e1.s → Stp q1 W H e.s σ W1 H1 e1.s → Rl H e.s σ W1 H1 e1.s a v → Q1 v H1) : tM A K XE q1 Rl m σ H Q1 := by
  rcases bnd_some hm with ⟨a, e1, h1, h2⟩ | ⟨C, fs, h1, e2⟩
  · exact ⟨W, e, .ok a, e1, hE, h1, fun W1 H1 E1 S1 v r => hk a e1 W1 H1 v h2 E1 (h0.trans (S1.weak hq)) S1 r⟩
  · subst e2
    exact ⟨W, e, .exc C fs, e', hE, h1, fun W1 H1 E1 S1 cls d x => hp W1 H1 E1 (h0.trans (S1.weak hq)) cls d x⟩
/-- .. with the part's own equation -/
theorem step' {α β γ δ : Type} {q q1 : Bool} {Rl : Rel α γ} {Rb : Rel β δ} {m : M α} {k : α → M β} {σ : L2.St} {H : Hp} {W : Wd} {e e' : Ev} {out : Out β} {Q : δ → Hp → Prop} {Q1 : γ → Hp → Prop} {W0 : Wd} {H0 : Hp} {s0 : List (Option R)}
    (hE : EnvOk A K W H σ e) (h0 : Stp q W0 H0 s0 σ W H e.s) (hm : bnd m k e = some (out, e')) (hp : Post A K XE q Rb W0 H0 s0 σ out e' Q) (hq : q = true → q1 = true)
    (hk : ∀ a e1 W1 H1 v, m e = some (.ok a, e1) → k a e1 = some (out, e') → EnvOk A K W1 H1 σ e1 → Stp q W0 H0 s0 σ W1 H1 e1.s → Stp q1 W H e.s σ W1 H1 e1.s → Rl H e.s σ W1 H1 e1.s a v → Q1 v H1) : tM A K XE q1 Rl m σ H Q1 := by
  rcases bnd_some hm with ⟨a, e1, h1, h2⟩ | ⟨C, fs, h1, e2⟩
  · exact ⟨W, e, .ok a, e1, hE, h1, fun W1 H1 E1 S1 v r => hk a e1 W1 H1 v h1 h2 E1 (h0.trans (S1.weak hq)) S1 r⟩
  · subst e2
    exact ⟨W, e, .exc C fs, e', hE, h1, fun W1 H1 E1 S1 cls d x => hp W1 H1 E1 (h0.trans (S1.weak hq)) cls d x⟩
theorem frozen_not_own {W : Wd} {H : Hp} {σ : L2.St} {e : Ev} (E : EnvOk A K W H σ e) {i : Nat} {p : Addr} {o : HO} (h : W.G p = some o) : ¬ Ow e.s σ i p := fun ⟨⟨t, h1⟩, h2⟩ => by
  obtain ⟨v, h3, h4⟩ := E.sl i _ h1
  rw [h2] at h3
  cases h3
  obtain ⟨p', e', ow⟩ := (show ∃ p', V.ref p = .ref p' ∧ Own A W H t p' from h4)
  cases e'
  have z := ow.1
  rw [h] at z
  cases z
theorem Ow.there {W : Wd} {H : Hp} {σ : L2.St} {e : Ev} (E : EnvOk A K W H σ e) {i : Nat} {p : Addr} (h : Ow e.s σ i p) : ∃ t, e.s[i]? = some (some (true, t)) ∧ Own A W H t p := by
  obtain ⟨⟨t, h1⟩, h2⟩ := h
  obtain ⟨v, h3, h4⟩ := E.sl i _ h1
  rw [h2] at h3
  cases h3
  obtain ⟨p', e', ow⟩ := (show ∃ p', V.ref p = .ref p' ∧ Own A W H t p' from h4)
  cases e'
  exact ⟨t, h1, ow⟩
/-- a new value is no slot's own -/
theorem Res.rva {q : Bool} {W W' : Wd} {H H' : Hp} {σ : L2.St} {e e' : Ev} (E : EnvOk A K W H σ e) (S : Stp q W H e.s σ W' H' e'.s) {r : R} {v : V} (h : Res A H W' H' r v) : RvA A none W' H' e'.s σ r.2 v := by
  obtain ⟨o, t⟩ := r
  refine ⟨?_, fun j z => nomatch z⟩
  cases o with
  | false => exact .inl h
  | true =>
    obtain ⟨p, e1, ow, hn, nd⟩ := (show ∃ p, v = .ref p ∧ Own A W' H' t p ∧ H p = none ∧ NoDr W' p from h)
    refine .inr ⟨p, e1, ow, fun j w => ?_, nd⟩
    obtain ⟨t', _, _, o, ho, _⟩ := Ow.there E (S.own j p w)
    rw [hn] at ho
    cases ho
/-- a result, told from further back -/
theorem Res.from {q : Bool} {W W' W2 : Wd} {H H' H2 : Hp} {s s' : List (Option R)} {σ : L2.St} {r : R} {v : V} (h : Res A H' W2 H2 r v) (S : Stp q W H s σ W' H' s') : Res A H W2 H2 r v := by
  obtain ⟨o, t⟩ := r
  cases o with
  | false => exact h
  | true =>
    obtain ⟨p, e1, ow, hn, nd⟩ := (show ∃ p, v = .ref p ∧ Own A W2 H2 t p ∧ H' p = none ∧ NoDr W2 p from h)
    exact (show ∃ p, v = .ref p ∧ Own A W2 H2 t p ∧ H p = none ∧ NoDr W2 p from ⟨p, e1, ow, S.dom p hn, nd⟩)
def Ex.varOf : Ex → Option Nat
  | .var i => some i
  | _ => none
theorem varOf_isVar (e : Ex) : e.varOf.isSome = e.isVar := by cases e <;> rfl
/-- from an expression that is no name -/
theorem rdm_other {e : Ex} (h : e.isVar = false) (m : M R) : rdm e m = bnd m fun r => ret r.2 := by
  cases e <;> first | rfl | cases h
theorem PE.mono {X : Cx} {e : Expr} {t t' : TE} (h : PE X e t) (f : ∀ σ H Q, t' σ H Q → t σ H Q) : PE X e t' :=
  ⟨fun pins s σ H Q I q => h.run pins s σ H Q I (f σ H Q q)⟩
theorem pr_other {X : Cx} {e : Expr} {ir : Ex} {q : Bool} {m : M R} (h : ir.isVar = false) (he : PE X e (tE A K XE q m)) : PE X e (tR A K XE ir.varOf q (rdm ir m)) := by
  refine PE.mono he fun σ H Q hh => ?_
  obtain ⟨W, e1, out, e', E, hm, hp⟩ := hh
  rw [rdm_other h] at hm
  refine step E (.refl q W H e1.s σ) hm hp id fun r e2 W1 H1 v h2 E2 S2 _ rs => ?_
  cases h2
  have z : ir.varOf = none := by cases ir <;> first | rfl | cases h
  rw [z] at hp
  exact hp W1 H1 E2 S2 v (Res.rva E S2 rs)
/-- what stands still is no one's own -/
theorem fz_not_own {W : Wd} {H : Hp} {σ : L2.St} {e : Ev} (E : EnvOk A K W H σ e) {t : T} {p : Addr} (h : Fz A W t (.ref p)) (o : Own A W H t p) : False := by
  obtain ⟨g, ob, _, o⟩ := o
  cases t <;> simp only [OwnO] at o <;> simp only [Fz] at h
  · obtain ⟨a, vs, e1, g1, _⟩ := h; cases e1; rw [g] at g1; cases g1
  · obtain ⟨a, vs, e1, g1, _⟩ := h; cases e1; rw [g] at g1; cases g1
  · obtain ⟨a, vs, e1, g1, _⟩ := h; cases e1; rw [g] at g1; cases g1
  · obtain ⟨a, dx, vs, e1, g1, _⟩ := h; cases e1; rw [g] at g1; cases g1
theorem pn_other {X : Cx} {e : Expr} {ir : Ex} {q : Bool} {m : M R} (h : ir.isVar = false) (he : PE X e (tE A K XE q m)) : PE X e (tN A K XE ir.varOf q (rdm ir m)) := by
  refine PE.mono he fun σ H Q hh => ?_
  obtain ⟨W, e1, out, e', E, hm, hp⟩ := hh
  rw [rdm_other h] at hm
  refine step E (.refl q W H e1.s σ) hm hp id fun r e2 W1 H1 v h2 E2 S2 _ rs => ?_
  cases h2
  have z : ir.varOf = none := by cases ir <;> first | rfl | cases h
  rw [z] at hp
  exact hp W1 H1 E2 S2 v ⟨Res.rva E S2 rs, fun p e3 ow => by
    subst e3
    obtain ⟨o, t⟩ := r
    cases o with
    | false => exact (fz_not_own E2 rs ow).elim
    | true =>
      obtain ⟨p', e4, _, hn, _⟩ := (show ∃ p', V.ref p = .ref p' ∧ Own A W1 H1 t p' ∧ H p' = none ∧ NoDr W1 p' from rs)
      cases e4
      exact .inl hn⟩
/-- a name, looked at -/
theorem pr_var {X : Cx} {i : Nat} {q : Bool} {x : Str} {pos : Pos} (hN : X.N[i]? = some x) (hv : Vis X.env.scope x) (hd : (x == ("__debug__" : Str)) = false) (hcd : (x == ("__classdict__" : Str)) = false) (m : M R) :
    PE X (.Name x pos) (tR A K XE (some i) q (rdm (.var i) m)) := by
  refine PE.mono (pe_var hN hv hd hcd) fun σ H Q hh => ?_
  obtain ⟨W, e, out, e', E, hm, hp⟩ := hh
  obtain ⟨r, e1, h1, h2⟩ | ⟨C, fs, h1, _⟩ := bnd_some (show bnd (rd i) (fun r => ret r.2) e = some (out, e') from hm)
  · unfold rd at h1
    cases q1 : e.s[i]? with
    | none => rw [q1] at h1; cases h1
    | some z =>
      rw [q1] at h1
      cases z with
      | none => cases h1
      | some r' =>
        cases h1
        cases h2
        obtain ⟨v, hv, sl⟩ := E.sl i _ q1
        refine ⟨v, hv, hp W H E (.refl q W H _ σ) v ?_⟩
        obtain ⟨o, t⟩ := r
        cases o with
        | false => exact ⟨.inl sl, fun j z => by
            cases z
            exact ⟨hv, fun ⟨p, ⟨t', z1⟩, _⟩ => by rw [q1] at z1; cases z1⟩⟩
        | true =>
          obtain ⟨p, e2, ow⟩ := (show ∃ p, v = .ref p ∧ Own A W H t p from sl)
          have w : Ow e.s σ i p := ⟨⟨t, q1⟩, by rw [hv, e2]⟩
          refine ⟨.inr ⟨p, e2, ow, fun j w' => by rw [E.dj j i p w' w], E.nd i p w⟩, fun j z => ?_⟩
          cases z
          refine ⟨hv, fun _ => ?_⟩
          obtain ⟨_, _, _, r⟩ := ow
          cases t <;> first | rfl | exact r.elim
  · unfold rd at h1
    split at h1 <;> cases h1
/-- .. -/
theorem pn_var {X : Cx} {i : Nat} {q : Bool} {x : Str} {pos : Pos} (hN : X.N[i]? = some x) (hv : Vis X.env.scope x) (hd : (x == ("__debug__" : Str)) = false) (hcd : (x == ("__classdict__" : Str)) = false) (m : M R) :
    PE X (.Name x pos) (tN A K XE (some i) q (rdm (.var i) m)) := by
  refine PE.mono (pe_var hN hv hd hcd) fun σ H Q hh => ?_
  obtain ⟨W, e, out, e', E, hm, hp⟩ := hh
  obtain ⟨r, e1, h1, h2⟩ | ⟨C, fs, h1, _⟩ := bnd_some (show bnd (rd i) (fun r => ret r.2) e = some (out, e') from hm)
  · unfold rd at h1
    cases q1 : e.s[i]? with
    | none => rw [q1] at h1; cases h1
    | some z =>
      rw [q1] at h1
      cases z with
      | none => cases h1
      | some r' =>
        cases h1
        cases h2
        obtain ⟨v, hv, sl⟩ := E.sl i _ q1
        refine ⟨v, hv, hp W H E (.refl q W H _ σ) v ⟨?_, ?_⟩⟩
        rotate_left
        · intro p e3 ow
          subst e3
          obtain ⟨o, t⟩ := r
          cases o with
          | false => exact (fz_not_own E sl ow).elim
          | true => exact .inr ⟨i, ⟨t, q1⟩, hv⟩
        obtain ⟨o, t⟩ := r
        cases o with
        | false => exact ⟨.inl sl, fun j z => by
            cases z
            exact ⟨hv, fun ⟨p, ⟨t', z1⟩, _⟩ => by rw [q1] at z1; cases z1⟩⟩
        | true =>
          obtain ⟨p, e2, ow⟩ := (show ∃ p, v = .ref p ∧ Own A W H t p from sl)
          have w : Ow e.s σ i p := ⟨⟨t, q1⟩, by rw [hv, e2]⟩
          refine ⟨.inr ⟨p, e2, ow, fun j w' => by rw [E.dj j i p w' w], E.nd i p w⟩, fun j z => ?_⟩
          cases z
          refine ⟨hv, fun _ => ?_⟩
          obtain ⟨_, _, _, r⟩ := ow
          cases t <;> first | rfl | exact r.elim
  · unfold rd at h1
    split at h1 <;> cases h1
end
end PB
end
section
set_option Elab.async false
set_option linter.all false
set_option maxRecDepth 100000
/-! PB7: what a slot held alone stands still from now on. -/
namespace PB
open PySem PySem.Spec PyProof.Rows L2
open Classical in
/-- the objects at B stand still, too -/
noncomputable def addG (W : Wd) (H : Hp) (B : Addr → Prop) : Hp := fun a => match W.G a with
  | some o => some o
  | none => if B a then (match H a with
    | some o => if isTb o then none else some o
    | none => none) else none
theorem addG_gt (W : Wd) (H : Hp) (B : Addr → Prop) : ∀ a o, addG W H B a = some o → isTb o = false := fun a o h => by
  unfold addG at h
  cases e : W.G a with
  | some o' =>
    rw [e] at h
    cases h
    exact W.gt a _ e
  | none =>
    rw [e] at h
    simp only at h
    split at h
    · split at h
      · split at h
        · cases h
        · rename_i z; cases h; simpa using z
      · cases h
    · cases h
noncomputable def Wd.add (W : Wd) (H : Hp) (B : Addr → Prop) : Wd := { W with G := addG W H B, gt := addG_gt W H B }
theorem Wd.add_old {W : Wd} {H : Hp} {B : Addr → Prop} {a : Addr} {o : HO} (h : W.G a = some o) : (W.add H B).G a = some o := by
  unfold Wd.add addG
  simp only [h]
theorem Wd.add_in {W : Wd} {H : Hp} {B : Addr → Prop} {a : Addr} (h : W.G a = none) (b : B a) {o : HO} (ho : H a = some o) (nt : isTb o = false) : (W.add H B).G a = some o := by
  unfold Wd.add addG
  simp only [h, b, if_true, ho, nt, Bool.false_eq_true, if_false]
theorem Wd.add_out {W : Wd} {H : Hp} {B : Addr → Prop} {a : Addr} (h : W.G a = none) (b : ¬ B a) : (W.add H B).G a = none := by
  unfold Wd.add addG
  simp only [h, b, if_false]
theorem Wd.add_some {W : Wd} {H : Hp} {B : Addr → Prop} {a : Addr} {o : HO} (h : (W.add H B).G a = some o) : W.G a = some o ∨ (W.G a = none ∧ B a ∧ H a = some o) := by
  cases e : W.G a with
  | some o' => rw [Wd.add_old e] at h; exact .inl h
  | none =>
    by_cases b : B a
    · unfold Wd.add addG at h
      simp only [e, b, if_true] at h
      split at h
      · rename_i o' ho
        split at h
        · cases h
        · cases h
          exact .inr ⟨rfl, b, ho⟩
      · cases h
    · rw [Wd.add_out e b] at h; cases h
theorem Wd.add_le (W : Wd) (H : Hp) (B : Addr → Prop) : W.le (W.add H B) := ⟨fun _ _ h => Wd.add_old h, fun _ h => h, rfl, rfl, rfl⟩
section
variable {A : Cad} {K : PySem.W.Frag} {XE : XK}
/-- slots after a freeze -/
def Frzn (σ : L2.St) (B : Addr → Prop) (s s' : List (Option R)) : Prop :=
  s'.length = s.length ∧ ∀ (i : Nat) (r : R), s'[i]? = some (some r) → (s[i]? = some (some r) ∧ (r.1 = true → ∀ p, σ[i]? = some (some (V.ref p)) → ¬ B p)) ∨
    (r.1 = false ∧ s[i]? = some (some (true, r.2)) ∧ ∀ p, σ[i]? = some (some (V.ref p)) → B p)
theorem Frzn.ow {σ : L2.St} {B : Addr → Prop} {s s' : List (Option R)} (f : Frzn σ B s s') {i : Nat} {p : Addr} (h : Ow s' σ i p) : Ow s σ i p ∧ ¬ B p := by
  obtain ⟨⟨t, h1⟩, h2⟩ := h
  rcases f.2 i _ h1 with ⟨h3, h4⟩ | ⟨h3, _⟩
  · exact ⟨⟨⟨t, h3⟩, h2⟩, h4 rfl p h2⟩
  · cases h3
theorem add_ok {q : Bool} {W0 W : Wd} {H0 H : Hp} {s0 s' : List (Option R)} {σ : L2.St} {e : Ev} {B : Addr → Prop} (E : EnvOk A K W H σ e) (S : Stp q W0 H0 s0 σ W H e.s)
    (hB : ∀ a, B a → NoDr W a ∧ W.G a = none ∧ ((∃ i, Ow s0 σ i a) ∨ H0 a = none ∨ ∃ vs, H a = some (.tup vs))) (f : Frzn σ B e.s s') :
    EnvOk A K (W.add H B) H σ ⟨s', e.d⟩ ∧ Stp q W0 H0 s0 σ (W.add H B) H s' := by
  refine ⟨⟨fun a o h => ?_, ?_, E.sc, by rw [← E.len]; exact f.1, fun i r h => ?_, fun i j p h1 h2 => E.dj i j p (f.ow h1).1 (f.ow h2).1, fun i p h => E.nd i p (f.ow h).1⟩,
    ⟨S.wle.trans (Wd.add_le W H B), S.keep, S.dom, fun a o h => ?_, fun i p h => S.own i p (f.ow h).1, S.drn⟩⟩
  · rcases Wd.add_some h with z | ⟨_, _, z⟩
    · exact E.le a o z
    · exact .inl z
  · have d := E.dr
    unfold DrOk at d ⊢
    cases h1 : e.d with
    | none =>
      rw [h1] at d
      cases h2 : W.dr with
      | none => simp only [Wd.add, h2]
      | some x => rw [h2] at d; exact d.elim
    | some D =>
      rw [h1] at d
      cases h2 : W.dr with
      | none => rw [h2] at d; exact d.elim
      | some x =>
        rw [h2] at d
        obtain ⟨x1, x2⟩ := x
        obtain ⟨d1, d2, d3, d4, d5⟩ := d
        simp only [Wd.add, h2]
        refine ⟨d1, ?_, ?_, d4, d5⟩
        · simp only [addG, d2]
          rw [if_neg]
          intro b
          exact ((hB _ b).1 _ (.inl h2)).1 rfl
        · simp only [addG, d3]
          rw [if_neg]
          intro b
          exact ((hB _ b).1 _ (.inl h2)).2 rfl
  · obtain ⟨o, t⟩ := r
    rcases f.2 i _ h with ⟨h3, h4⟩ | ⟨h3, h4, h5⟩
    · obtain ⟨v, hv, sl⟩ := E.sl i _ h3
      refine ⟨v, hv, ?_⟩
      cases o with
      | false => exact Fz.mono A (Wd.add_le W H B) sl
      | true =>
        obtain ⟨p, e1, g, o, ho, ow⟩ := (show ∃ p, v = .ref p ∧ Own A W H t p from sl)
        refine (show ∃ p, v = .ref p ∧ Own A (W.add H B) H t p from ⟨p, e1, ?_, o, ho, ow.mono A (Wd.add_le W H B)⟩)
        exact Wd.add_out g (h4 rfl p (by rw [hv, e1]))
    · cases h3
      obtain ⟨v, hv, sl⟩ := E.sl i _ h4
      obtain ⟨p, e1, g, o, ho, ow⟩ := (show ∃ p, v = .ref p ∧ Own A W H t p from sl)
      refine ⟨v, hv, (show Fz A (W.add H B) t v from ?_)⟩
      rw [e1]
      refine OwnO.fz A (ow.mono A (Wd.add_le W H B)) ?_
      exact Wd.add_in g (h5 p (by rw [hv, e1])) ho (OwnO.tb ow)
  · rcases Wd.add_some h with z | ⟨_, b, ho⟩
    · exact S.new a o z
    · rcases (hB a b).2.2 with z | z | ⟨vs, z⟩
      · exact .inr (.inl z)
      · exact .inr (.inr (.inl z))
      · rw [ho] at z
        exact .inr (.inr (.inr ⟨vs, Option.some.inj z⟩))
theorem Frzn.refl (σ : L2.St) {B : Addr → Prop} {s : List (Option R)} (h : ∀ i p, Ow s σ i p → ¬ B p) : Frzn σ B s s :=
  ⟨rfl, fun i r e => .inl ⟨e, fun h1 p h2 => h i p ⟨⟨r.2, by rw [e]; obtain ⟨o, t⟩ := r; cases h1; rfl⟩, h2⟩⟩⟩
theorem frz1_get (i j : Nat) (s : List (Option R)) : (frz1 i s)[j]? = if i = j then (match s[j]? with | some (some (true, t)) => some (some (false, t)) | x => x) else s[j]? := by
  unfold frz1
  by_cases h : i = j
  · subst h
    rw [if_pos rfl]
    cases e : s[i]? with
    | none => simp only [e]
    | some x =>
      cases x with
      | none => simp only [e]
      | some r =>
        obtain ⟨o, t⟩ := r
        cases o with
        | false => simp only [e]
        | true =>
          simp only
          rw [List.getElem?_set_self (by
            rcases Nat.lt_or_ge i s.length with z | z
            · exact z
            · rw [List.getElem?_eq_none z] at e; cases e)]
  · rw [if_neg h]
    cases e : s[i]? with
    | none => rfl
    | some x =>
      cases x with
      | none => rfl
      | some r =>
        obtain ⟨o, t⟩ := r
        cases o with
        | false => rfl
        | true =>
          simp only
          rw [List.getElem?_set_ne h]
theorem frz1_len (i : Nat) (s : List (Option R)) : (frz1 i s).length = s.length := by
  unfold frz1
  split
  · rw [List.length_set]
  · rfl
/-- one slot's object stands still -/
theorem frz1_ok {q : Bool} {W0 W : Wd} {H0 H : Hp} {s0 : List (Option R)} {σ : L2.St} {e : Ev} {i : Nat} {r : R} {v : V} (E : EnvOk A K W H σ e) (S : Stp q W0 H0 s0 σ W H e.s)
    (h : e.s[i]? = some (some r)) (hv : σ[i]? = some (some v)) : ∃ W', EnvOk A K W' H σ ⟨frz1 i e.s, e.d⟩ ∧ Stp q W0 H0 s0 σ W' H (frz1 i e.s) ∧ Fz A W' r.2 v := by
  obtain ⟨o, t⟩ := r
  obtain ⟨v', hv', sl⟩ := E.sl i _ h
  rw [hv] at hv'
  cases hv'
  cases o with
  | false =>
    have e1 : frz1 i e.s = e.s := by unfold frz1; rw [h]
    rw [e1]
    exact ⟨W, E, S, sl⟩
  | true =>
    obtain ⟨p, e1, ow⟩ := (show ∃ p, v = .ref p ∧ Own A W H t p from sl)
    subst e1
    have w : Ow e.s σ i p := ⟨⟨t, h⟩, hv⟩
    have z := add_ok (B := fun a => a = p) (s' := frz1 i e.s) E S (fun a b => by
      subst b
      exact ⟨E.nd i a w, ow.1, .inl ⟨i, S.own i a w⟩⟩) ⟨frz1_len i e.s, fun j r' h' => by
        rw [frz1_get] at h'
        by_cases c : i = j
        · subst c
          rw [if_pos rfl, h] at h'
          cases h'
          exact .inr ⟨rfl, h, fun p' h2 => by rw [hv] at h2; cases h2; rfl⟩
        · rw [if_neg c] at h'
          refine .inl ⟨h', fun h1 p' h2 b => c ?_⟩
          subst b
          obtain ⟨o', t'⟩ := r'
          cases h1
          exact E.dj i j p' w ⟨⟨t', h'⟩, h2⟩⟩
    refine ⟨_, z.1, z.2, ?_⟩
    obtain ⟨g, o, ho, r⟩ := ow
    refine OwnO.fz A (r.mono A (Wd.add_le W H _)) ?_
    exact Wd.add_in (B := fun a => a = p) g rfl ho (OwnO.tb r)
/-- a name, taken -/
theorem pe_name {X : Cx} {C : Orc} {i : Nat} {q : Bool} {x : Str} {pos : Pos} (hN : X.N[i]? = some x) (hv : Vis X.env.scope x) (hd : (x == ("__debug__" : Str)) = false) (hcd : (x == ("__classdict__" : Str)) = false) :
    PE X (.Name x pos) (tE A K XE q (ev C (.var i))) := by
  refine PE.mono (pe_var hN hv hd hcd) fun σ H Q hh => ?_
  obtain ⟨W, e, out, e', E, hm, hp⟩ := hh
  simp only [ev] at hm
  cases q1 : e.s[i]? with
  | none => rw [q1] at hm; cases hm
  | some z =>
    rw [q1] at hm
    cases z with
    | none => cases hm
    | some r =>
      obtain ⟨o, t⟩ := r
      cases hm
      obtain ⟨v, hv, _⟩ := E.sl i _ q1
      obtain ⟨W', E', S', f⟩ := frz1_ok E (.refl q W H e.s σ) q1 hv
      exact ⟨v, hv, hp W' H E' S' v f⟩
end
end PB
end
section
set_option Elab.async false
set_option linter.all false
set_option maxRecDepth 100000
/-! PB8: what the rules ask of values; new objects. -/
namespace PB
open PySem PySem.Spec PyProof.Rows L2
section
variable {A : Cad} {K : PySem.W.Frag} {XE : XK} {W : Wd} {H : Hp} {σ : L2.St} {e : Ev}
theorem EnvOk.at_ (E : EnvOk A K W H σ e) {a : Addr} {o : HO} (h : W.G a = some o) (d : isDO o = false) : H a = some o := by
  rcases E.le a o h with z | ⟨z, _⟩
  · exact z
  · rw [d] at z; cases z
theorem EnvOk.rd (E : EnvOk A K W H σ e) {a : Addr} {o : HO} (h : W.G a = some o) : Rd H a o := by
  rcases E.le a o h with z | ⟨_, z⟩
  · exact .inl z
  · exact .inr z
theorem rv_non {v : V} (h : Rv A W H .non v) : v = .non := by
  rcases h with h | ⟨p, _, _, o, _, h⟩
  · simpa [Fz] using h
  · exact h.elim
theorem rv_bl {b : Bool} {v : V} (h : Rv A W H (.bl b) v) : v = .bl b := by
  rcases h with h | ⟨p, _, _, o, _, h⟩
  · simpa [Fz] using h
  · exact h.elim
theorem rv_int {i : Int} {v : V} (h : Rv A W H (.int i) v) : v = .int i := by
  rcases h with h | ⟨p, _, _, o, _, h⟩
  · simpa [Fz] using h
  · exact h.elim
theorem rv_str {s : Str} {v : V} (h : Rv A W H (.str s) v) : v = .str s := by
  rcases h with h | ⟨p, _, _, o, _, h⟩
  · simpa [Fz] using h
  · exact h.elim
theorem rv_lst (E : EnvOk A K W H σ e) {ts : List T} {v : V} (h : Rv A W H (.lst ts) v) : ∃ a vs, v = .ref a ∧ H a = some (.lst vs) ∧ FzL A W ts vs := by
  rcases h with h | ⟨p, e1, _, o, ho, h⟩
  · simp only [Fz] at h
    obtain ⟨a, vs, e1, g, r⟩ := h
    exact ⟨a, vs, e1, E.at_ g rfl, r⟩
  · simp only [OwnO] at h
    obtain ⟨vs, e2, r⟩ := h
    subst e2
    exact ⟨p, vs, e1, ho, r⟩
theorem rv_tup (E : EnvOk A K W H σ e) {ts : List T} {v : V} (h : Rv A W H (.tup ts) v) : ∃ a vs, v = .ref a ∧ H a = some (.tup vs) ∧ FzL A W ts vs ∧ W.G a = some (.tup vs) := by
  rcases h with h | ⟨p, e1, _, o, ho, h⟩
  · simp only [Fz] at h
    obtain ⟨a, vs, e1, g, r⟩ := h
    exact ⟨a, vs, e1, E.at_ g rfl, r, g⟩
  · exact h.elim
theorem rv_dK (E : EnvOk A K W H σ e) {ts : List (Key × T)} {v : V} (h : Rv A W H (.dK ts) v) : ∃ a vs, v = .ref a ∧ Rd H a (.dK vs) ∧ FzK A W ts vs := by
  rcases h with h | ⟨p, e1, _, o, ho, h⟩
  · simp only [Fz] at h
    obtain ⟨a, vs, e1, g, r⟩ := h
    exact ⟨a, vs, e1, E.rd g, r⟩
  · simp only [OwnO] at h
    obtain ⟨vs, e2, r⟩ := h
    subst e2
    exact ⟨p, vs, e1, .inl ho, r⟩
theorem rv_dT (E : EnvOk A K W H σ e) {ts : List (List Key × T)} {v : V} (h : Rv A W H (.dT ts) v) : ∃ a vs, v = .ref a ∧ Rd H a (.dT vs) ∧ FzT A W ts vs := by
  rcases h with h | ⟨p, e1, _, o, ho, h⟩
  · simp only [Fz] at h
    obtain ⟨a, vs, e1, g, r⟩ := h
    exact ⟨a, vs, e1, E.rd g, r⟩
  · simp only [OwnO] at h
    obtain ⟨vs, e2, r⟩ := h
    subst e2
    exact ⟨p, vs, e1, .inl ho, r⟩
theorem rv_ins (E : EnvOk A K W H σ e) {C : Str} {fs : List (Str × T)} {v : V} (h : Rv A W H (.ins C fs) v) : ∃ a dx ws, v = .ref a ∧ H a = some (.ins (A.ad C) dx ws) ∧ FzF A W fs ws ∧ C ∈ A.cl := by
  rcases h with h | ⟨p, e1, _, o, ho, h⟩
  · simp only [Fz] at h
    obtain ⟨a, dx, vs, e1, g, r⟩ := h
    exact ⟨a, dx, vs, e1, E.at_ g rfl, r⟩
  · simp only [OwnO] at h
    obtain ⟨dx, vs, e2, r⟩ := h
    subst e2
    exact ⟨p, dx, vs, e1, ho, r⟩
theorem FzL.len : ∀ {ts : List T} {vs : List V}, FzL A W ts vs → ts.length = vs.length
  | [], [], _ => rfl
  | _ :: ts, _ :: vs, h => by
    simp only [FzL] at h
    simp only [List.length_cons, FzL.len h.2]
  | [], _ :: _, h => by simp only [FzL] at h
  | _ :: _, [], h => by simp only [FzL] at h
theorem FzL.get : ∀ {ts : List T} {vs : List V} {i : Nat} {t : T}, FzL A W ts vs → ts[i]? = some t → ∃ v, vs[i]? = some v ∧ Fz A W t v
  | [], [], _, _, _, h => by simp at h
  | t :: ts, v :: vs, 0, _, h, h2 => by
    simp only [FzL] at h
    simp at h2
    subst h2
    exact ⟨v, by simp, h.1⟩
  | t :: ts, v :: vs, i + 1, _, h, h2 => by
    simp only [FzL] at h
    obtain ⟨w, h3, h4⟩ := FzL.get (i := i) h.2 (by simpa using h2)
    exact ⟨w, by simpa using h3, h4⟩
  | [], _ :: _, _, _, h, _ => by simp only [FzL] at h
  | _ :: _, [], _, _, h, _ => by simp only [FzL] at h
theorem FzL.app : ∀ {ts us : List T} {vs ws : List V}, FzL A W ts vs → FzL A W us ws → FzL A W (ts ++ us) (vs ++ ws)
  | [], _, [], _, _, h => h
  | t :: ts, _, v :: vs, _, h, h2 => by
    simp only [FzL, List.cons_append] at h ⊢
    exact ⟨h.1, h.2.app h2⟩
  | [], _, _ :: _, _, h, _ => by simp only [FzL] at h
  | _ :: _, _, [], _, h, _ => by simp only [FzL] at h
theorem FzL.one {t : T} {v : V} (h : Fz A W t v) : FzL A W [t] [v] := by
  simp only [FzL]
  exact ⟨h, trivial⟩
theorem FzL.drop : ∀ {n : Nat} {ts : List T} {vs : List V}, FzL A W ts vs → FzL A W (ts.drop n) (vs.drop n)
  | 0, _, _, h => h
  | n + 1, [], [], _ => by simp only [List.drop_nil, FzL]
  | n + 1, t :: ts, v :: vs, h => by
    simp only [FzL] at h
    simpa using h.2.drop (n := n)
  | _ + 1, [], _ :: _, h => by simp only [FzL] at h
  | _ + 1, _ :: _, [], h => by simp only [FzL] at h
theorem FzL.take : ∀ {n : Nat} {ts : List T} {vs : List V}, FzL A W ts vs → FzL A W (ts.take n) (vs.take n)
  | 0, _, _, _ => by simp only [List.take_zero, FzL]
  | n + 1, [], [], _ => by simp only [List.take_nil, FzL]
  | n + 1, t :: ts, v :: vs, h => by
    simp only [FzL, List.take_succ_cons] at h ⊢
    exact ⟨h.1, h.2.take⟩
  | _ + 1, [], _ :: _, h => by simp only [FzL] at h
  | _ + 1, _ :: _, [], h => by simp only [FzL] at h
theorem FzL.set {t : T} {v : V} (hv : Fz A W t v) : ∀ {n : Nat} {ts : List T} {vs : List V}, FzL A W ts vs → FzL A W (ts.set n t) (vs.set n v)
  | _, [], [], _ => by simp only [List.set_nil, FzL]
  | 0, u :: ts, w :: vs, h => by
    simp only [FzL, List.set_cons_zero] at h ⊢
    exact ⟨hv, h.2⟩
  | n + 1, u :: ts, w :: vs, h => by
    simp only [FzL, List.set_cons_succ] at h ⊢
    exact ⟨h.1, h.2.set hv⟩
  | _, [], _ :: _, h => by simp only [FzL] at h
  | _, _ :: _, [], h => by simp only [FzL] at h
theorem FzL.erase : ∀ {n : Nat} {ts : List T} {vs : List V}, FzL A W ts vs → FzL A W (ts.eraseIdx n) (vs.eraseIdx n)
  | _, [], [], _ => by simp only [List.eraseIdx_nil, FzL]
  | 0, u :: ts, w :: vs, h => by
    simp only [FzL, List.eraseIdx_cons_zero] at h ⊢
    exact h.2
  | n + 1, u :: ts, w :: vs, h => by
    simp only [FzL, List.eraseIdx_cons_succ] at h ⊢
    exact ⟨h.1, h.2.erase⟩
  | _, [], _ :: _, h => by simp only [FzL] at h
  | _, _ :: _, [], h => by simp only [FzL] at h
theorem FzL.rev : ∀ {ts : List T} {vs : List V}, FzL A W ts vs → FzL A W ts.reverse vs.reverse
  | [], [], h => by simpa using h
  | t :: ts, v :: vs, h => by
    simp only [FzL] at h
    rw [List.reverse_cons, List.reverse_cons]
    exact (h.2.rev).app (.one h.1)
  | [], _ :: _, h => by simp only [FzL] at h
  | _ :: _, [], h => by simp only [FzL] at h
theorem FzL.rep {ts : List T} {vs : List V} (h : FzL A W ts vs) : ∀ n : Nat, FzL A W (List.replicate n ts).flatten (List.replicate n vs).flatten
  | 0 => by simp only [List.replicate_zero, List.flatten_nil, FzL]
  | n + 1 => by
    simp only [List.replicate_succ, List.flatten_cons]
    exact h.app (h.rep n)
theorem rv_light {t : T} {v : V} (l : t.hv = false) (h : Rv A W H t v) : Fz A W t v := by
  rcases h with h | ⟨p, _, _, o, _, h⟩
  · exact h
  · cases t <;> simp only [OwnO] at h <;> simp only [T.hv, Bool.true_eq_false, reduceCtorEq] at l
/-! data -/
mutual
theorem dp_of (E : EnvOk A K W H σ e) : ∀ {t : T} {v : V} {d : PyData}, Rv A W H t v → t.py = some d → Dp K H v d
  | .non, v, d, h, q => by
    simp only [T.py, Option.some.injEq] at q
    subst q
    rw [rv_non h]
    exact .non
  | .bl b, v, d, h, q => by
    simp only [T.py, Option.some.injEq] at q
    subst q
    rw [rv_bl h]
    exact .bl b
  | .int b, v, d, h, q => by
    simp only [T.py, Option.some.injEq] at q
    subst q
    rw [rv_int h]
    exact .int b
  | .str b, v, d, h, q => by
    simp only [T.py, Option.some.injEq] at q
    subst q
    rw [rv_str h]
    exact .str b
  | .lst ts, v, d, h, q => by
    obtain ⟨a, vs, e1, h1, r⟩ := rv_lst E h
    simp only [T.py, Option.map_eq_some_iff] at q
    obtain ⟨ds, q1, q2⟩ := q
    subst q2 e1
    exact .lst (.inl (.inl h1)) (dps_of E r q1)
  | .tup ts, v, d, h, q => by
    obtain ⟨a, vs, e1, h1, r, _⟩ := rv_tup E h
    simp only [T.py, Option.map_eq_some_iff] at q
    obtain ⟨ds, q1, q2⟩ := q
    subst q2 e1
    exact .tup (.inl (.inl h1)) (dps_of E r q1)
  | .dK _, v, d, h, q => by simp only [T.py] at q; cases q
  | .dT _, v, d, h, q => by simp only [T.py] at q; cases q
  | .ins _ _, v, d, h, q => by simp only [T.py] at q; cases q
  | .tok, v, d, h, q => by simp only [T.py] at q; cases q
  | .scr _, v, d, h, q => by simp only [T.py] at q; cases q
theorem dps_of (E : EnvOk A K W H σ e) : ∀ {ts : List T} {vs : List V} {ds : List PyData}, FzL A W ts vs → T.pys ts = some ds → DpAll K H vs ds
  | [], [], _, _, q => by
    simp only [T.pys, Option.some.injEq] at q
    subst q
    exact .nil
  | t :: ts, v :: vs, _, h, q => by
    simp only [FzL] at h
    simp only [T.pys] at q
    split at q
    · rename_i d ds q1 q2
      cases q
      exact .cons (dp_of E (.inl h.1) q1) (dps_of E h.2 q2)
    · cases q
  | [], _ :: _, _, h, _ => by simp only [FzL] at h
  | _ :: _, [], _, h, _ => by simp only [FzL] at h
end
theorem fz_flat {t : T} {v : V} (f : t.flat = true) (h : Rv A W H t v) : flatV v = true ∧ ∀ {u : T} {w : V}, u.flat = true → Rv A W H u w → eqV v w = eqF t u := by
  cases t <;> simp only [T.flat] at f <;> try (cases f)
  · rw [rv_non h]
    refine ⟨rfl, fun {u w} g hw => ?_⟩
    cases u <;> simp only [T.flat] at g <;> try (cases g)
    · rw [rv_non hw]; rfl
    · rw [rv_bl hw]; rfl
    · rw [rv_int hw]; rfl
    · rw [rv_str hw]; rfl
  · rw [rv_bl h]
    refine ⟨rfl, fun {u w} g hw => ?_⟩
    cases u <;> simp only [T.flat] at g <;> try (cases g)
    · rw [rv_non hw]; rfl
    · rw [rv_bl hw]; rfl
    · rw [rv_int hw]; rfl
    · rw [rv_str hw]; rfl
  · rw [rv_int h]
    refine ⟨rfl, fun {u w} g hw => ?_⟩
    cases u <;> simp only [T.flat] at g <;> try (cases g)
    · rw [rv_non hw]; rfl
    · rw [rv_bl hw]; rfl
    · rw [rv_int hw]; rfl
    · rw [rv_str hw]; rfl
  · rw [rv_str h]
    refine ⟨rfl, fun {u w} g hw => ?_⟩
    cases u <;> simp only [T.flat] at g <;> try (cases g)
    · rw [rv_non hw]; rfl
    · rw [rv_bl hw]; rfl
    · rw [rv_int hw]; rfl
    · rw [rv_str hw]; rfl
theorem fzl_flat : ∀ {ts : List T} {vs : List V}, ts.all T.flat = true → FzL A W ts vs → vs.all flatV = true ∧ ∀ {u : T} {w : V}, u.flat = true → Rv A W H u w → (vs.any fun y => eqV y w) = ts.any fun z => eqF z u
  | [], [], _, _ => ⟨rfl, fun {u w} _ _ => rfl⟩
  | t :: ts, v :: vs, f, h => by
    simp only [FzL] at h
    simp only [List.all_cons, Bool.and_eq_true] at f
    obtain ⟨f1, f2⟩ := fz_flat (H := H) f.1 (.inl h.1)
    obtain ⟨g1, g2⟩ := fzl_flat f.2 h.2
    refine ⟨by simp only [List.all_cons, f1, g1, Bool.and_self], fun {u w} hu hw => ?_⟩
    simp only [List.any_cons, f2 hu hw, g2 hu hw]
  | [], _ :: _, _, h => by simp only [FzL] at h
  | _ :: _, [], _, h => by simp only [FzL] at h
/-! new objects -/
theorem EnvOk.noG (E : EnvOk A K W H σ e) {p : Addr} (h : H p = none) : W.G p = none := by
  cases g : W.G p with
  | none => rfl
  | some o =>
    rcases E.le p o g with z | ⟨_, _, z⟩
    · rw [h] at z; cases z
    · rw [h] at z; cases z
theorem EnvOk.noDr (E : EnvOk A K W H σ e) {p : Addr} (h : H p = none) : NoDr W p := fun d hd => by
  rcases hd with hd | ⟨e1, q, e2⟩
  case inr =>
    obtain ⟨ps, z, _⟩ := E.sc.1.2 _ e2
    have ne : p ≠ d.1 := fun w => by rw [w, z] at h; cases h
    exact ⟨ne, by rw [e1]; exact ne⟩
  have z := E.dr
  unfold DrOk at z
  rw [hd] at z
  obtain ⟨x, y⟩ := d
  cases e1 : e.d with
  | none => rw [e1] at z; exact z.elim
  | some D =>
    rw [e1] at z
    obtain ⟨_, _, _, z1, z2⟩ := z
    exact ⟨fun w => (by subst w; rw [h] at z1; cases z1), fun w => (by subst w; rw [h] at z2; cases z2)⟩
/-- what stands at a table's place -/
theorem EnvOk.tab (E : EnvOk A K W H σ e) {p : Addr} {o : HO} (h : H p = some o) (ho : isTb o = false) {d : Addr × Addr} {q : Str} (e1 : d.2 = d.1) (e2 : (d.1, q) ∈ W.tb) : p ≠ d.1 ∧ p ≠ d.2 := by
  obtain ⟨ps, z, _⟩ := E.sc.1.2 _ e2
  have ne : p ≠ d.1 := fun w => by
    rw [w, z] at h
    cases h
    cases ho
  exact ⟨ne, by rw [e1]; exact ne⟩
theorem EnvOk.noOw (E : EnvOk A K W H σ e) {p : Addr} (h : H p = none) (i : Nat) : ¬ Ow e.s σ i p := fun w => by
  obtain ⟨_, _, _, o, ho, _⟩ := Ow.there E w
  rw [h] at ho
  cases ho
/-- what stood stands as it stood -/
theorem EnvOk.ext (E : EnvOk A K W H σ e) {H' : Hp} (k : ∀ a o, H a = some o → H' a = some o) : EnvOk A K W H' σ e where
  le := fun a o h => by
    rcases E.le a o h with z | ⟨z1, ob, z⟩
    · exact .inl (k _ _ z)
    · exact .inr ⟨z1, ob, k _ _ z⟩
  dr := by
    have z := E.dr
    unfold DrOk at z ⊢
    cases e1 : e.d with
    | none =>
      rw [e1] at z
      cases e2 : W.dr with
      | none => trivial
      | some d => rw [e2] at z; exact z
    | some D =>
      rw [e1] at z
      cases e2 : W.dr with
      | none => rw [e2] at z; exact z
      | some d =>
        rw [e2] at z
        obtain ⟨x, y⟩ := d
        obtain ⟨z1, z2, z3, z4, z5⟩ := z
        exact ⟨z1, z2, z3, k _ _ z4, k _ _ z5⟩
  sc := by
    obtain ⟨z1, z2⟩ := E.sc
    exact ⟨⟨z1.1, z1.2.ext k⟩, z2.imp (fun ⟨o, h⟩ => ⟨o, k _ _ h⟩) id⟩
  len := E.len
  sl := fun i r h => by
    obtain ⟨v, h1, h2⟩ := E.sl i r h
    refine ⟨v, h1, ?_⟩
    obtain ⟨o, t⟩ := r
    cases o with
    | false => exact h2
    | true =>
      obtain ⟨p, e1, g, o, ho, ow⟩ := (show ∃ p, v = .ref p ∧ Own A W H t p from h2)
      exact (show ∃ p, v = .ref p ∧ Own A W H' t p from ⟨p, e1, g, o, k _ _ ho, ow⟩)
  dj := E.dj
  nd := E.nd
theorem Stp.ext {q : Bool} {W0 : Wd} {H0 : Hp} {s0 s : List (Option R)} (S : Stp q W0 H0 s0 σ W H s) {H' : Hp} (k : ∀ a o, H a = some o → H' a = some o) : Stp q W0 H0 s0 σ W H' s where
  wle := S.wle
  keep := fun a o h n d => k _ _ (S.keep a o h n d)
  dom := fun a h => S.dom a (by
    cases z : H a with
    | none => rfl
    | some o => rw [k _ _ z] at h; cases h)
  new := S.new
  own := S.own
  drn := S.drn
theorem upd_ext {p : Addr} {o : HO} (h : H p = none) : ∀ a u, H a = some u → upd H p o a = some u := fun a u z => by
  rw [upd_ne]
  · exact z
  · intro w; subst w; rw [h] at z; cases z
theorem new_own {q : Bool} {W0 : Wd} {H0 : Hp} {s0 : List (Option R)} (E : EnvOk A K W H σ e) (S : Stp q W0 H0 s0 σ W H e.s) {p : Addr} {o : HO} {t : T} (h : H p = none) (r : OwnO A W o t) :
    EnvOk A K W (upd H p o) σ e ∧ Stp q W0 H0 s0 σ W (upd H p o) e.s ∧ Res A H0 W (upd H p o) (true, t) (.ref p) :=
  ⟨E.ext (upd_ext h), S.ext (upd_ext h), p, rfl, ⟨E.noG h, o, upd_same, r⟩, S.dom p h, E.noDr h⟩
theorem new_tup {q : Bool} {W0 : Wd} {H0 : Hp} {s0 : List (Option R)} (E : EnvOk A K W H σ e) (S : Stp q W0 H0 s0 σ W H e.s) {p : Addr} {ts : List T} {vs : List V} (h : H p = none) (r : FzL A W ts vs) :
    ∃ W', EnvOk A K W' (upd H p (.tup vs)) σ e ∧ Stp q W0 H0 s0 σ W' (upd H p (.tup vs)) e.s ∧ Fz A W' (.tup ts) (.ref p) := by
  have E1 := E.ext (upd_ext (o := .tup vs) h)
  have S1 := S.ext (upd_ext (o := .tup vs) h)
  have z := add_ok (B := fun a => a = p) (s' := e.s) E1 S1 (fun a b => by
    subst b
    exact ⟨E.noDr h, E.noG h, .inr (.inl (S.dom a h))⟩) (Frzn.refl σ fun i a w b => by subst b; exact E.noOw h i w)
  refine ⟨_, z.1, z.2, ?_⟩
  simp only [Fz]
  refine ⟨p, vs, rfl, ?_, r.mono A (Wd.add_le W _ _)⟩
  exact Wd.add_in (B := fun a => a = p) (E.noG h) rfl upd_same rfl
end
end PB
end
section
set_option Elab.async false
set_option linter.all false
set_option maxRecDepth 100000
/-! PBQ: a dict beside an empty one; lists of which one is shallow. -/
namespace PB
open PySem PySem.Spec PyProof.Rows L2
section
variable {prog : Program} {w : World} {A : Around} {E : Value → Shared → Prop} {s : Shared}
/-- what an exact dict at a is -/
structure DAt (s : Shared) (a : Addr) (n : Nat) : Prop where
  sys : (a == sysModules) = false
  ty : s.TypeIs (.ref a) "dict"
  ex : ∃ o es ep, s.heap.get? a = some o ∧ o.ExactDict ∧ o.data = .dict es ep ∧ es.size = n
theorem DAt.empty (d : DAt s a 0) : s.heap.DictOf (mixKind prog w) a [] := by
  obtain ⟨o, es, ep, h1, h2, h3, h4⟩ := d.ex
  have e : es = #[] := Array.eq_empty_of_size_eq_zero h4
  subst e
  exact ⟨o, _, ep, h1, h2, h3, (fun e h => by simp at h), .nil, List.nodup_nil⟩
theorem pairs_len {nm : String} {a b : Addr} {m n : Nat} {Q : Bool → Shared → Prop} (da : DAt s a m) (db : DAt s b n) (hne : m ≠ n) (h : Q false s) : wpAny (model prog w) A (Builtin.Dict.samePairs nm a b) Q E s := by
  obtain ⟨ha, _, oa, es, ep, hoa, _, hda, hm⟩ := da
  obtain ⟨hb, _, ob, es', ep', hob, _, hdb, hn⟩ := db
  subst hm hn
  unfold Builtin.Dict.samePairs Builtin.Dict.showsAll
  rw [if_neg (by rw [ha]; exact Bool.false_ne_true), if_neg (by rw [hb]; exact Bool.false_ne_true)]
  refine wpAny_bind (wpAny_pure (wpAny_bind (wpAny_pure (wpAny_bind (wpAny_dictEntries hoa hda ?_)))))
  dsimp only
  refine wpAny_bind (wpAny_dictEntries hob hdb ?_)
  rw [if_pos (by simpa using hne)]
  exact wpAny_bind (wpAny_rule (wpAny_pure h))
theorem eq_len {a b : Addr} {m n : Nat} {Q : Value → Shared → Prop} (da : DAt s a m) (db : DAt s b n) (hu : A.units < cLine) (hne : m ≠ n) (h : Q (.bool false) s) : wpAny (model prog w) A (compareOp .Eq (.ref a) (.ref b)) Q E s := by
  refine wpAny_richCompare_same_room (op := .Eq) da.ty db.ty PySem.F.slot_dict_eq (wpAny_call_entry PySem.F.slot_dict_eq da.ty PySem.F.entry_dict_eq ?_ (PySem.F.args_dict_eq_2 _ _)) hu
  show wpAny _ _ (Builtin.Dict.dictSlotArgs "__eq__" ⟨[.ref a, .ref b], []⟩ >>= _) _ _ s
  refine wpAny_bind ?_
  unfold Builtin.Dict.dictSlotArgs
  refine wpAny_bind (wpAny_notOrdered_dict da.ty (wpAny_pure (wpAny_bind (wpAny_isInstance (T := "dict") db.ty PySem.F.sub_dict_dict ?_))))
  simp only [Bool.not_true, Bool.false_eq_true, if_false]
  exact wpAny_bind (wpAny_pure (wpAny_bind (wpAny_pure (wpAny_bind (pairs_len da db hne (wpAny_pure ⟨_, rfl, (fun x => nomatch x), by simpa using h⟩))))))
theorem ne_len {a b : Addr} {m n : Nat} {Q : Value → Shared → Prop} (da : DAt s a m) (db : DAt s b n) (hu : A.units < cLine) (hne : m ≠ n) (h : Q (.bool true) s) : wpAny (model prog w) A (compareOp .NotEq (.ref a) (.ref b)) Q E s := by
  refine wpAny_richCompare_same_room (op := .NotEq) da.ty db.ty PySem.F.slot_dict_ne (wpAny_call_entry PySem.F.slot_dict_ne da.ty PySem.F.entry_dict_ne ?_ (PySem.F.args_dict_ne_2 _ _)) hu
  show wpAny _ _ (Builtin.Dict.dictSlotArgs "__ne__" ⟨[.ref a, .ref b], []⟩ >>= _) _ _ s
  refine wpAny_bind ?_
  unfold Builtin.Dict.dictSlotArgs
  refine wpAny_bind (wpAny_notOrdered_dict da.ty (wpAny_pure (wpAny_bind (wpAny_isInstance (T := "dict") db.ty PySem.F.sub_dict_dict ?_))))
  simp only [Bool.not_true, Bool.false_eq_true, if_false]
  exact wpAny_bind (wpAny_pure (wpAny_bind (wpAny_pure (wpAny_bind (pairs_len da db hne (wpAny_pure ⟨_, rfl, (fun x => nomatch x), by simpa using h⟩))))))
end
section
variable {X : Cx}
/-- a dict of n keys -/
def DN (H : Hp) (a : Addr) (n : Nat) : Prop := (∃ ks : List (Key × V), Rd H a (.dK ks) ∧ ks.length = n) ∨ ∃ ks : List (List Key × V), Rd H a (.dT ks) ∧ ks.length = n
theorem dat_of {P : Program} {w : World} {H : Hp} {s : Shared} {a : Addr} {n : Nat} (ok : HOk P w H s.heap) (d : DN H a n) : DAt s a n := by
  rcases d with ⟨ks, h, rfl⟩ | ⟨ks, h, rfl⟩
  · obtain ⟨_, y, vs, rel, dd⟩ := dk_rd ok h
    have ty := dd.typeIs
    obtain ⟨o, es, ep, h1, h2, h3, _, h5, _⟩ := dd
    exact ⟨y, ty, o, es, ep, h1, h2, h3, by rw [← Array.length_toList, h5.length, ← rel.length]⟩
  · obtain ⟨_, y, xs, rel, dd⟩ := dt_rd ok h
    have ty := dd.typeIs
    obtain ⟨o, es, ep, h1, h2, h3, h4, _, _⟩ := dd
    exact ⟨y, ty, o, es, ep, h1, h2, h3, by rw [size_of_entries h4, ← Paired.length rel]⟩
def rEqO (neg : Bool) : R2 := fun x y H Q => ∃ a b n, x = .ref a ∧ y = .ref b ∧ DN H a n ∧ DN H b 0 ∧ Q (.bl ((n == 0) != neg)) H
theorem op_eqO (hu : X.A.units < cLine) : OpR X (compareOp .Eq) (rEqO false) := by
  intro pins s σ H x y v u Q I rx ry h
  obtain ⟨a, b, n, rfl, rfl, ea, eb, q⟩ := h
  obtain rfl : v = Value.ref a := rx
  obtain rfl : u = Value.ref b := ry
  have da := dat_of I.hok ea
  have db := dat_of I.hok eb
  by_cases hn : n = 0
  · subst hn
    exact PySem.W.keq_eq (knd := mixKind X.prog X.w) (r := true) da.sys db.sys da.empty db.empty hu (fun _ => .nil) (fin_bl I q (by simp))
  · exact eq_len da db hu hn (fin_bl I q (by simp [hn]))
theorem op_neO (hu : X.A.units < cLine) : OpR X (compareOp .NotEq) (rEqO true) := by
  intro pins s σ H x y v u Q I rx ry h
  obtain ⟨a, b, n, rfl, rfl, ea, eb, q⟩ := h
  obtain rfl : v = Value.ref a := rx
  obtain rfl : u = Value.ref b := ry
  have da := dat_of I.hok ea
  have db := dat_of I.hok eb
  by_cases hn : n = 0
  · subst hn
    exact PySem.W.keq_ne (knd := mixKind X.prog X.w) (r := true) da.sys db.sys da.empty db.empty hu (fun _ => .nil) (fin_bl I q (by simp))
  · exact ne_len da db hu hn (fin_bl I q (by simp [hn]))
/-! lists and tuples of which one is shallow -/
def rEqM (K : PySem.W.Frag) : R2 := fun x y H Q => ∃ d e, Dp K H x d ∧ Dp K H y e ∧ d.canLay0 = true ∧ e.canLay0 = true ∧ min d.depth e.depth ≤ 64 ∧ Q (.bl (PyData.eqv d e)) H
def rNeM (K : PySem.W.Frag) : R2 := fun x y H Q => ∃ d e, Dp K H x d ∧ Dp K H y e ∧ d.canLay0 = true ∧ e.canLay0 = true ∧ min d.depth e.depth ≤ 64 ∧ Q (.bl (!PyData.eqv d e)) H
theorem op_eqM (hu : X.A.units + 64 < cLine) : OpR X (compareOp .Eq) (rEqM X.K) := by
  intro pins s σ H x y v u Q I rx ry h
  obtain ⟨d, e, hd, he, sd, se, hm, q⟩ := h
  obtain ⟨as, r1⟩ := Dp.reads I d x v hd rx
  obtain ⟨bs, r2⟩ := Dp.reads I e y u he ry
  exact SeqAt.compareEq_reads r1 r2 sd se (by omega) ⟨.bl _, H, I, rfl, q⟩
theorem op_neM (hu : X.A.units + 64 < cLine) : OpR X (compareOp .NotEq) (rNeM X.K) := by
  intro pins s σ H x y v u Q I rx ry h
  obtain ⟨d, e, hd, he, sd, se, hm, q⟩ := h
  obtain ⟨as, r1⟩ := Dp.reads I d x v hd rx
  obtain ⟨bs, r2⟩ := Dp.reads I e y u he ry
  exact SeqAt.compareNe_reads r1 r2 sd se (by omega) ⟨.bl _, H, I, rfl, q⟩
end
end PB
end
section
set_option Elab.async false
set_option linter.all false
set_option maxRecDepth 100000
/-! PB9: the operations, by values. -/
namespace PB
open PySem PySem.Spec PyProof.Rows L2
section
variable {A : Cad} {K : PySem.W.Frag} {XE : XK} {W W0 : Wd} {H H0 : Hp} {σ : L2.St} {e : Ev} {q : Bool} {s0 : List (Option R)} {Q : VK} {x y : V} {tx ty : T} {r : R}
/-- what is wanted of a value with this tree -/
def Kon (A : Cad) (K : PySem.W.Frag) (q : Bool) (W0 : Wd) (H0 : Hp) (s0 : List (Option R)) (σ : L2.St) (e : Ev) (r : R) (Q : VK) : Prop :=
  ∀ W' H' v, EnvOk A K W' H' σ e → Stp q W0 H0 s0 σ W' H' e.s → Res A H0 W' H' r v → Q v H'
theorem Kon.imm (k : Kon A K q W0 H0 s0 σ e (false, tx) Q) (E : EnvOk A K W H σ e) (S : Stp q W0 H0 s0 σ W H e.s) (h : Fz A W tx x) : Q x H := k W H x E S h
theorem Kon.int {i : Int} (k : Kon A K q W0 H0 s0 σ e (false, .int i) Q) (E : EnvOk A K W H σ e) (S : Stp q W0 H0 s0 σ W H e.s) : Q (.int i) H := k.imm E S (by simp only [Fz])
theorem Kon.bl {i : Bool} (k : Kon A K q W0 H0 s0 σ e (false, .bl i) Q) (E : EnvOk A K W H σ e) (S : Stp q W0 H0 s0 σ W H e.s) : Q (.bl i) H := k.imm E S (by simp only [Fz])
theorem Kon.str {i : Str} (k : Kon A K q W0 H0 s0 σ e (false, .str i) Q) (E : EnvOk A K W H σ e) (S : Stp q W0 H0 s0 σ W H e.s) : Q (.str i) H := k.imm E S (by simp only [Fz])
theorem Kon.non (k : Kon A K q W0 H0 s0 σ e (false, .non) Q) (E : EnvOk A K W H σ e) (S : Stp q W0 H0 s0 σ W H e.s) : Q .non H := k.imm E S (by simp only [Fz])
theorem Kon.lst {ts : List T} {vs : List V} (k : Kon A K q W0 H0 s0 σ e (true, .lst ts) Q) (E : EnvOk A K W H σ e) (S : Stp q W0 H0 s0 σ W H e.s) (h : FzL A W ts vs) : ∀ p, H p = none → Q (.ref p) (upd H p (.lst vs)) := fun p hp => by
  obtain ⟨E1, S1, R1⟩ := new_own (t := .lst ts) E S hp ⟨vs, rfl, h⟩
  exact k _ _ _ E1 S1 R1
theorem Kon.tup {ts : List T} {vs : List V} (k : Kon A K q W0 H0 s0 σ e (false, .tup ts) Q) (E : EnvOk A K W H σ e) (S : Stp q W0 H0 s0 σ W H e.s) (h : FzL A W ts vs) : ∀ p, H p = none → Q (.ref p) (upd H p (.tup vs)) := fun p hp => by
  obtain ⟨W', E1, S1, f⟩ := new_tup E S hp h
  exact k _ _ _ E1 S1 f
def rAdd : R2 := fun x y H Q => (rI0 fun i j => .int (i + j)) x y H Q ∨ ((fun x y H Q => ∃ i j, x = .str i ∧ y = .str j ∧ i.length + j.length ≤ sizeLine ∧ Q (.str (i ++ j)) H : R2) x y H Q ∨ rCat x y H Q)
def rMul : R2 := fun x y H Q => (rI CMul fun i j => .int (i * j)) x y H Q ∨ rRep x y H Q
def rBin : Bop → R2
  | .add => rAdd
  | .sub => rI0 fun i j => .int (i - j)
  | .mul => rMul
  | .mod => rI (fun _ j => 0 < j) fun i j => .int (i % j)
  | .fdiv => rI CDiv fun i j => .int (i / j)
  | .pow => rI CPow fun i j => .int (i ^ j.toNat)
theorem op_bin {X : Cx} : ∀ {o : Operator} {b : Bop}, bopOf o = some b → OpR X (binaryOp o) (rBin b)
  | o, b, h => by
    cases o <;> simp only [bopOf, Option.some.injEq, reduceCtorEq] at h <;> subst h
    · exact OpR.or op_add (OpR.or op_add_str op_cat)
    · exact op_sub
    · exact OpR.or op_mul op_rep
    · exact op_mod
    · exact op_pow
    · exact op_fdiv
theorem small_of {i : Int} (h : small i = true) : -(2 ^ 64) < i ∧ i < 2 ^ 64 := by
  simp only [small, Bool.and_eq_true, decide_eq_true_eq] at h
  exact h
theorem bin_ok {b : Bop} (h : binT b tx ty = some r) (E : EnvOk A K W H σ e) (S : Stp q W0 H0 s0 σ W H e.s) (rx : Rv A W H tx x) (ry : Rv A W H ty y) (k : Kon A K q W0 H0 s0 σ e r Q) : rBin b x y H Q := by
  unfold binT at h
  split at h
  · cases h
    exact .inl ⟨_, _, rv_int rx, rv_int ry, k.int E S⟩
  · split at h
    · rename_i hs
      cases h
      exact .inr (.inl ⟨_, _, rv_str rx, rv_str ry, hs, k.str E S⟩)
    · cases h
  · split at h
    · rename_i hs
      cases h
      obtain ⟨a, vs, e1, h1, f1⟩ := rv_lst E rx
      obtain ⟨b, ws, e2, h2, f2⟩ := rv_lst E ry
      exact .inr (.inr ⟨a, b, vs, ws, e1, e2, h1, h2, by rw [← f1.len, ← f2.len]; exact hs, k.lst E S (f1.app f2)⟩)
    · cases h
  · cases h
    exact ⟨_, _, rv_int rx, rv_int ry, k.int E S⟩
  · split at h
    · rename_i hs
      cases h
      simp only [Bool.or_eq_true] at hs
      exact .inl ⟨_, _, rv_int rx, rv_int ry, hs.imp small_of small_of, k.int E S⟩
    · cases h
  · split at h
    · rename_i hs
      cases h
      simp only [Bool.and_eq_true, decide_eq_true_eq] at hs
      obtain ⟨a, vs, e1, h1, f1⟩ := rv_lst E rx
      exact .inr ⟨a, _, vs, e1, rv_int ry, h1, hs.1.1, hs.1.2, by rw [← f1.len]; exact hs.2, k.lst E S (f1.rep _)⟩
    · cases h
  · split at h
    · rename_i hs
      cases h
      exact ⟨_, _, rv_int rx, rv_int ry, hs, k.int E S⟩
    · cases h
  · split at h
    · rename_i hs
      cases h
      simp only [Bool.and_eq_true, decide_eq_true_eq] at hs
      exact ⟨_, _, rv_int rx, rv_int ry, hs, k.int E S⟩
    · cases h
  · split at h
    · rename_i hs
      cases h
      simp only [Bool.and_eq_true, decide_eq_true_eq] at hs
      exact ⟨_, _, rv_int rx, rv_int ry, ⟨hs.1.1, hs.1.2, hs.2⟩, k.int E S⟩
    · cases h
  · cases h
/-! keys, dicts -/
theorem keyT_fz {W : Wd} : ∀ (k : Key), Fz A W (keyT k) (kV k)
  | .inl i => by simp only [keyT, kV, Fz]
  | .inr s => by simp only [keyT, kV, Fz]
theorem key_of {k : Key} (h : tx.key = some k) (rx : Rv A W H tx x) : x = kV k := by
  cases tx <;> simp only [T.key, Option.some.injEq, reduceCtorEq] at h
  · subst h; exact rv_int rx
  · subst h; exact rv_str rx
theorem keys_of {W : Wd} : ∀ {ts : List T} {vs : List V} {ks : List Key}, keysOf ts = some ks → FzL A W ts vs → vs = ks.map kV
  | [], [], ks, h, _ => by simp only [keysOf, Option.some.injEq] at h; subst h; rfl
  | t :: ts, v :: vs, ks, h, f => by
    simp only [FzL] at f
    simp only [keysOf] at h
    split at h
    · rename_i k ks' h1 h2
      cases h
      rw [List.map_cons, ← keys_of h2 f.2, ← key_of (H := fun _ => none) h1 (.inl f.1)]
    · cases h
  | [], _ :: _, _, _, f => by simp only [FzL] at f
  | _ :: _, [], _, _, f => by simp only [FzL] at f
theorem tkey_of {k : List Key} (h : tx.tkey = some k) (E : EnvOk A K W H σ e) (rx : Rv A W H tx x) : ∃ b, x = .ref b ∧ H b = some (.tup (k.map kV)) := by
  cases tx <;> simp only [T.tkey, reduceCtorEq] at h
  obtain ⟨a, vs, e1, h1, f, _⟩ := rv_tup E rx
  rw [keys_of h f] at h1
  exact ⟨a, e1, h1⟩
theorem getK_fz {W : Wd} : ∀ {kvs : List (Key × T)} {ws : List (Key × V)} (k : Key), FzK A W kvs ws → (getK kvs k = none ∧ valV ws k = none) ∨ ∃ t v, getK kvs k = some t ∧ valV ws k = some v ∧ Fz A W t v
  | [], [], k, _ => .inl ⟨rfl, rfl⟩
  | (k1, t) :: ts, (k2, v) :: vs, k, f => by
    simp only [FzK] at f
    obtain ⟨e1, f1, f2⟩ := f
    subst e1
    by_cases c : k1 = k
    · subst c
      refine .inr ⟨t, v, ?_, ?_, f1⟩
      · simp [getK]
      · simp [valV]
    · have z1 : getK ((k1, t) :: ts) k = getK ts k := by simp [getK, List.find?_cons, c]
      have z2 : valV ((k1, v) :: vs) k = valV vs k := by simp [valV, List.find?_cons, c]
      rw [z1, z2]
      exact getK_fz k f2
  | [], _ :: _, _, f => by simp only [FzK] at f
  | _ :: _, [], _, f => by simp only [FzK] at f
theorem getT_fz {W : Wd} : ∀ {kvs : List (List Key × T)} {ws : List (List Key × V)} (k : List Key), FzT A W kvs ws → (getK kvs k = none ∧ valV ws k = none) ∨ ∃ t v, getK kvs k = some t ∧ valV ws k = some v ∧ Fz A W t v
  | [], [], k, _ => .inl ⟨rfl, rfl⟩
  | (k1, t) :: ts, (k2, v) :: vs, k, f => by
    simp only [FzT] at f
    obtain ⟨e1, f1, f2⟩ := f
    subst e1
    by_cases c : k1 = k
    · subst c
      refine .inr ⟨t, v, ?_, ?_, f1⟩
      · simp [getK]
      · simp [valV]
    · have z1 : getK ((k1, t) :: ts) k = getK ts k := by simp [getK, List.find?_cons, c]
      have z2 : valV ((k1, v) :: vs) k = valV vs k := by simp [valV, List.find?_cons, c]
      rw [z1, z2]
      exact getT_fz k f2
  | [], _ :: _, _, f => by simp only [FzT] at f
  | _ :: _, [], _, f => by simp only [FzT] at f
/-- a look into a dict -/
theorem dget_ok {o : Option T} (h : dgetT tx ty = some o) (E : EnvOk A K W H σ e) (rx : Rv A W H tx x) (ry : Rv A W H ty y) : ∃ a ov, x = .ref a ∧ DGet H a y ov ∧ IsD H a ∧ ((o = none ∧ ov = none) ∨ ∃ t v, o = some t ∧ ov = some v ∧ Fz A W t v) := by
  unfold dgetT at h
  split at h
  · rename_i kvs
    simp only [Option.map_eq_some_iff] at h
    obtain ⟨k, h1, h2⟩ := h
    obtain ⟨a, ws, e1, g, f⟩ := rv_dK E rx
    have ey := key_of h1 ry
    refine ⟨a, valV ws k, e1, .inl ⟨ws, k, g, ey, rfl⟩, .inl ⟨ws, g⟩, ?_⟩
    subst h2
    rcases getK_fz k f with ⟨z1, z2⟩ | ⟨t, v, z1, z2, z3⟩
    · exact .inl ⟨z1, z2⟩
    · exact .inr ⟨t, v, z1, z2, z3⟩
  · rename_i kvs
    simp only [Option.map_eq_some_iff] at h
    obtain ⟨k, h1, h2⟩ := h
    obtain ⟨a, ws, e1, g, f⟩ := rv_dT E rx
    obtain ⟨b, ey, hb⟩ := tkey_of h1 E ry
    refine ⟨a, valV ws k, e1, .inr ⟨ws, k, b, g, ey, hb, rfl⟩, .inr ⟨ws, g⟩, ?_⟩
    subst h2
    rcases getT_fz k f with ⟨z1, z2⟩ | ⟨t, v, z1, z2, z3⟩
    · exact .inl ⟨z1, z2⟩
    · exact .inr ⟨t, v, z1, z2, z3⟩
  · cases h
/-! comparisons -/
def rInA (K : PySem.W.Frag) (neg : Bool) : R2 := fun x y H Q => rIn K neg x y H Q ∨ ((fun x y H Q => ∃ (c : Nat) (z : Str), x = .str ⟨#[c]⟩ ∧ y = .str z ∧ Q (.bl (if neg then !decide (c ∈ z.cps.toList) else decide (c ∈ z.cps.toList))) H : R2) x y H Q ∨
  (fun x y H Q => ∃ a o, y = .ref a ∧ DGet H a x o ∧ Q (.bl (if neg then !o.isSome else o.isSome)) H : R2) x y H Q)
theorem op_inA {X : Cx} (hu : X.A.units + 1 < cLine) : OpR X (compareOp .In) (rInA X.K false) := by
  refine OpR.or op_in_seq (OpR.or ?_ ?_)
  · simpa using op_in_sign
  · intro pins s σ H x y v u Q I rx ry h
    obtain ⟨a, o, ey, g, h⟩ := h
    subst ey
    obtain rfl : u = Value.ref a := ry
    exact d_in hu I g rx fun s3 I3 => ⟨.bl o.isSome, H, I3, rfl, by simpa using h⟩
theorem op_ninA {X : Cx} (hu : X.A.units + 1 < cLine) : OpR X (compareOp .NotIn) (rInA X.K true) := by
  refine OpR.or op_notIn_seq (OpR.or ?_ ?_)
  · simpa using op_notIn_sign
  · intro pins s σ H x y v u Q I rx ry h
    obtain ⟨a, o, ey, g, h⟩ := h
    subst ey
    obtain rfl : u = Value.ref a := ry
    exact d_notIn hu I g rx fun s3 I3 => ⟨.bl (!o.isSome), H, I3, rfl, by simpa using h⟩
def isV (x : V) (b : Bool) : Bool := match x with
  | .bl c => c == b
  | _ => false
def okV : V → Bool
  | .ty _ => false
  | .flt _ => false
  | .byt _ => false
  | _ => true
def rIs (neg : Bool) : R2 := fun x y H Q => (fun x y H Q => y = .non ∧ Q (.bl (if neg then !decide (x = .non) else decide (x = .non))) H : R2) x y H Q ∨
  (fun x y H Q => ∃ b, y = .bl b ∧ okV x = true ∧ Q (.bl (if neg then !isV x b else isV x b)) H : R2) x y H Q
theorem is_bool {x : V} {v : Value} {b : Bool} (r : RelV x v) (ho : okV x = true) : plainIs v (.bool b) = true ∧ (v == .bool b) = isV x b := by
  cases x with
  | non => cases (show v = Value.none from r); exact ⟨rfl, rfl⟩
  | bl c =>
    cases (show v = Value.bool c from r)
    refine ⟨rfl, ?_⟩
    show _ = (c == b)
    cases c <;> cases b <;> rfl
  | int i => obtain ⟨t, z⟩ := (show ∃ t, v = Value.int i t from r); cases z; exact ⟨rfl, rfl⟩
  | str i => obtain ⟨t, z⟩ := (show ∃ t, v = Value.str i t from r); cases z; exact ⟨rfl, rfl⟩
  | ref a => cases (show v = Value.ref a from r); exact ⟨rfl, rfl⟩
  | ty n => cases ho
  | flt n => cases ho
  | byt n => cases ho
theorem op_isA {X : Cx} : OpR X (compareOp .Is) (rIs false) := by
  refine OpR.or (by simpa using op_isN) ?_
  intro pins s σ H x y v u Q I rx ry h
  obtain ⟨b, ey, ho, h⟩ := h
  subst ey
  cases (show u = Value.bool b from ry)
  obtain ⟨h1, h2⟩ := is_bool (b := b) rx ho
  exact wpAny_is_plain h1 ⟨.bl (isV x b), H, I, by rw [h2]; rfl, by simpa using h⟩
theorem op_isnA {X : Cx} : OpR X (compareOp .IsNot) (rIs true) := by
  refine OpR.or (by simpa using op_notN) ?_
  intro pins s σ H x y v u Q I rx ry h
  obtain ⟨b, ey, ho, h⟩ := h
  subst ey
  cases (show u = Value.bool b from ry)
  obtain ⟨h1, h2⟩ := is_bool (b := b) rx ho
  exact wpAny_isNot_plain h1 ⟨.bl (!isV x b), H, I, by rw [h2]; rfl, by simpa using h⟩
def rOrd (f : Int → Int → Bool) (g : Str → Str → Bool) : R2 := fun x y H Q => (rI0 fun i j => .bl (f i j)) x y H Q ∨ (fun x y H Q => ∃ i j, x = .str i ∧ y = .str j ∧ Q (.bl (g i j)) H : R2) x y H Q
def rCmp (K : PySem.W.Frag) : Cop → R2
  | .eq => fun x y H Q => rEqM K x y H Q ∨ rEqO false x y H Q
  | .ne => fun x y H Q => rNeM K x y H Q ∨ rEqO true x y H Q
  | .lt => rOrd (fun i j => decide (i < j)) strLt
  | .le => rOrd (fun i j => decide (i ≤ j)) fun a b => !strLt b a
  | .gt => rOrd (fun i j => decide (j < i)) fun a b => strLt b a
  | .ge => rOrd (fun i j => decide (j ≤ i)) fun a b => !strLt a b
  | .is => rIs false
  | .isn => rIs true
  | .inn => rInA K false
  | .nin => rInA K true
theorem op_cmp {X : Cx} (hu : X.A.units + 64 < cLine) : ∀ {o : CmpOp} {c : Cop}, copOf o = some c → OpR X (compareOp o) (rCmp X.K c)
  | o, c, h => by
    have hu1 : X.A.units + 1 < cLine := by omega
    cases o <;> simp only [copOf, Option.some.injEq, reduceCtorEq] at h <;> subst h
    · exact OpR.or (op_eqM hu) (op_eqO (by omega))
    · exact OpR.or (op_neM hu) (op_neO (by omega))
    · exact OpR.or op_lt op_lt_str
    · exact OpR.or op_le op_le_str
    · exact OpR.or op_gt op_gt_str
    · exact OpR.or op_ge op_ge_str
    · exact op_isA
    · exact op_isnA
    · exact op_inA hu1
    · exact op_ninA hu1
theorem isT_ok {b : Bool} (neg : Bool) (h : isT tx ty = some b) (E : EnvOk A K W H σ e) (rx : Rv A W H tx x) (ry : Rv A W H ty y) (k : Q (.bl (if neg then !b else b)) H) : rIs neg x y H Q := by
  unfold isT at h
  split at h
  · refine .inl ⟨rv_non ry, ?_⟩
    split at h
    · cases h
      rw [rv_non rx]
      simpa using k
    · rename_i hn
      cases h
      have z : decide (x = V.non) = false := by
        cases tx with
        | non => exact absurd rfl hn
        | bl b => rw [rv_bl rx]; rfl
        | int b => rw [rv_int rx]; rfl
        | str b => rw [rv_str rx]; rfl
        | lst b => obtain ⟨a, vs, z, _⟩ := rv_lst E rx; rw [z]; rfl
        | tup b => obtain ⟨a, vs, z, _⟩ := rv_tup E rx; rw [z]; rfl
        | dK b => obtain ⟨a, vs, z, _⟩ := rv_dK E rx; rw [z]; rfl
        | dT b => obtain ⟨a, vs, z, _⟩ := rv_dT E rx; rw [z]; rfl
        | ins C b => obtain ⟨a, dx, vs, z, _⟩ := rv_ins E rx; rw [z]; rfl
        | tok =>
          rcases rx with rx | ⟨p, z, _⟩
          · simp only [Fz] at rx
            obtain ⟨p, q, _, z⟩ := rx
            rw [z]; rfl
          · rw [z]; rfl
        | scr n =>
          rcases rx with rx | ⟨p, z, _⟩
          · simp only [Fz] at rx
            rw [rx.1]; rfl
          · rw [z]; rfl
      rw [z]
      simpa using k
  · rename_i c
    refine .inr ⟨c, rv_bl ry, ?_⟩
    cases tx <;> simp only [Option.some.injEq, reduceCtorEq] at h <;> subst h
    · rw [rv_non rx]; exact ⟨rfl, by simpa [isV] using k⟩
    · rw [rv_bl rx]; exact ⟨rfl, by simpa [isV] using k⟩
    · rw [rv_int rx]; exact ⟨rfl, by simpa [isV] using k⟩
    · rw [rv_str rx]; exact ⟨rfl, by simpa [isV] using k⟩
    · obtain ⟨a, vs, z, _⟩ := rv_lst E rx; rw [z]; exact ⟨rfl, by simpa [isV] using k⟩
    · obtain ⟨a, vs, z, _⟩ := rv_tup E rx; rw [z]; exact ⟨rfl, by simpa [isV] using k⟩
    · obtain ⟨a, vs, z, _⟩ := rv_dK E rx; rw [z]; exact ⟨rfl, by simpa [isV] using k⟩
    · obtain ⟨a, vs, z, _⟩ := rv_dT E rx; rw [z]; exact ⟨rfl, by simpa [isV] using k⟩
    · obtain ⟨a, dx, vs, z, _⟩ := rv_ins E rx; rw [z]; exact ⟨rfl, by simpa [isV] using k⟩
  · cases h
theorem inT_ok {b : Bool} (neg : Bool) (h : inT tx ty = some b) (E : EnvOk A K W H σ e) (rx : Rv A W H tx x) (ry : Rv A W H ty y) (k : Q (.bl (if neg then !b else b)) H) : rInA K neg x y H Q := by
  unfold inT at h
  split at h
  · rename_i ys
    split at h
    · rename_i hc
      cases h
      simp only [Bool.and_eq_true] at hc
      obtain ⟨a, vs, e1, h1, f⟩ := rv_lst E ry
      obtain ⟨g1, g2⟩ := fzl_flat (H := H) hc.2 f
      refine .inl ⟨a, vs, e1, .inl (.inl (.inl h1)), (fz_flat hc.1 rx).1, g1, ?_⟩
      unfold inV
      rw [g2 hc.1 rx]
      exact k
    · cases h
  · rename_i ys
    split at h
    · rename_i hc
      cases h
      simp only [Bool.and_eq_true] at hc
      obtain ⟨a, vs, e1, h1, f, _⟩ := rv_tup E ry
      obtain ⟨g1, g2⟩ := fzl_flat (H := H) hc.2 f
      refine .inl ⟨a, vs, e1, .inr (.inl (.inl h1)), (fz_flat hc.1 rx).1, g1, ?_⟩
      unfold inV
      rw [g2 hc.1 rx]
      exact k
    · cases h
  · rename_i z
    split at h
    · rename_i c
      split at h
      · rename_i hc
        cases h
        refine .inr (.inl ⟨c.cps.getD 0 0, z, ?_, rv_str ry, k⟩)
        rw [rv_str rx]
        obtain ⟨⟨l⟩⟩ := c
        have hc : l.length = 1 := hc
        match l, hc with
        | [n], _ => rfl
      · cases h
    · cases h
  · simp only [Option.map_eq_some_iff] at h
    obtain ⟨o, h1, h2⟩ := h
    obtain ⟨a, ov, e1, g, _, d⟩ := dget_ok h1 E ry rx
    refine .inr (.inr ⟨a, ov, e1, g, ?_⟩)
    have z : ov.isSome = b := by
      rw [← h2]
      rcases d with ⟨z1, z2⟩ | ⟨t, v, z1, z2, _⟩ <;> rw [z1, z2] <;> rfl
    rw [z]
    exact k
  · simp only [Option.map_eq_some_iff] at h
    obtain ⟨o, h1, h2⟩ := h
    obtain ⟨a, ov, e1, g, _, d⟩ := dget_ok h1 E ry rx
    refine .inr (.inr ⟨a, ov, e1, g, ?_⟩)
    have z : ov.isSome = b := by
      rw [← h2]
      rcases d with ⟨z1, z2⟩ | ⟨t, v, z1, z2, _⟩ <;> rw [z1, z2] <;> rfl
    rw [z]
    exact k
  · cases h
theorem FzT.len {W : Wd} : ∀ {ts : List (List Key × T)} {vs : List (List Key × V)}, FzT A W ts vs → ts.length = vs.length
  | [], [], _ => rfl
  | (_, _) :: ts, (_, _) :: vs, h => by
    simp only [FzT] at h
    simp only [List.length_cons, FzT.len h.2.2]
  | [], _ :: _, h => by simp only [FzT] at h
  | _ :: _, [], h => by simp only [FzT] at h
theorem FzK.len {W : Wd} : ∀ {ts : List (Key × T)} {vs : List (Key × V)}, FzK A W ts vs → ts.length = vs.length
  | [], [], _ => rfl
  | (_, _) :: ts, (_, _) :: vs, h => by
    simp only [FzK] at h
    simp only [List.length_cons, FzK.len h.2.2]
  | [], _ :: _, h => by simp only [FzK] at h
  | _ :: _, [], h => by simp only [FzK] at h
theorem eqT_ok {b : Bool} (h : eqT tx ty = some b) (E : EnvOk A K W H σ e) (rx : Rv A W H tx x) (ry : Rv A W H ty y) :
    (∃ d f, Dp K H x d ∧ Dp K H y f ∧ d.canLay0 = true ∧ f.canLay0 = true ∧ min d.depth f.depth ≤ 64 ∧ PyData.eqv d f = b) ∨ ∃ p q n, x = .ref p ∧ y = .ref q ∧ DN H p n ∧ DN H q 0 ∧ (n == 0) = b := by
  unfold eqT at h
  split at h
  · cases h
    obtain ⟨p, vs, e1, g1, f1⟩ := rv_dK E rx
    obtain ⟨q, ws, e2, g2, f2⟩ := rv_dK E ry
    refine .inr ⟨p, q, _, e1, e2, .inl ⟨vs, g1, rfl⟩, .inl ⟨ws, g2, (FzK.len f2).symm⟩, ?_⟩
    rw [← FzK.len f1]
    rename_i kvs
    cases kvs <;> rfl
  · cases h
    obtain ⟨p, vs, e1, g1, f1⟩ := rv_dT E rx
    obtain ⟨q, ws, e2, g2, f2⟩ := rv_dK E ry
    refine .inr ⟨p, q, _, e1, e2, .inr ⟨vs, g1, rfl⟩, .inl ⟨ws, g2, (FzK.len f2).symm⟩, ?_⟩
    rw [← FzT.len f1]
    rename_i kvs
    cases kvs <;> rfl
  · split at h
    · rename_i d f h1 h2
      split at h
      · rename_i hc
        cases h
        simp only [Bool.and_eq_true, decide_eq_true_eq] at hc
        exact .inl ⟨d, f, dp_of E rx h1, dp_of E ry h2, hc.1.1, hc.1.2, hc.2, rfl⟩
      · cases h
    · cases h
theorem cmp_ok {c : Cop} {b : Bool} (h : cmpT c tx ty = some b) (E : EnvOk A K W H σ e) (rx : Rv A W H tx x) (ry : Rv A W H ty y) (k : Q (.bl b) H) : rCmp K c x y H Q := by
  cases c with
  | eq =>
    rcases eqT_ok h E rx ry with ⟨d, f, h1, h2, h3, h4, hm, h5⟩ | ⟨p, q, n, e1, e2, d1, d2, h5⟩
    · exact .inl ⟨d, f, h1, h2, h3, h4, hm, by rw [h5]; exact k⟩
    · exact .inr ⟨p, q, n, e1, e2, d1, d2, by rw [h5]; simpa using k⟩
  | ne =>
    simp only [cmpT, Option.map_eq_some_iff] at h
    obtain ⟨b', h, hb⟩ := h
    subst hb
    rcases eqT_ok h E rx ry with ⟨d, f, h1, h2, h3, h4, hm, h5⟩ | ⟨p, q, n, e1, e2, d1, d2, h5⟩
    · exact .inl ⟨d, f, h1, h2, h3, h4, hm, by rw [h5]; exact k⟩
    · exact .inr ⟨p, q, n, e1, e2, d1, d2, by rw [h5]; simpa using k⟩
  | is => exact isT_ok false h E rx ry (by simpa using k)
  | isn =>
    simp only [cmpT, Option.map_eq_some_iff] at h
    obtain ⟨b', h, hb⟩ := h
    subst hb
    exact isT_ok true h E rx ry (by simpa using k)
  | inn => exact inT_ok false h E rx ry (by simpa using k)
  | nin =>
    simp only [cmpT, Option.map_eq_some_iff] at h
    obtain ⟨b', h, hb⟩ := h
    subst hb
    exact inT_ok true h E rx ry (by simpa using k)
  | lt =>
    simp only [cmpT] at h
    split at h
    · cases h; exact .inl ⟨_, _, rv_int rx, rv_int ry, k⟩
    · cases h; exact .inr ⟨_, _, rv_str rx, rv_str ry, k⟩
    · cases h
  | le =>
    simp only [cmpT] at h
    split at h
    · cases h; exact .inl ⟨_, _, rv_int rx, rv_int ry, k⟩
    · cases h; exact .inr ⟨_, _, rv_str rx, rv_str ry, k⟩
    · cases h
  | gt =>
    simp only [cmpT] at h
    split at h
    · cases h; exact .inl ⟨_, _, rv_int rx, rv_int ry, k⟩
    · cases h; exact .inr ⟨_, _, rv_str rx, rv_str ry, k⟩
    · cases h
  | ge =>
    simp only [cmpT] at h
    split at h
    · cases h; exact .inl ⟨_, _, rv_int rx, rv_int ry, k⟩
    · cases h; exact .inr ⟨_, _, rv_str rx, rv_str ry, k⟩
    · cases h
/-- truth -/
theorem tru_ok' {b : Bool} (h : tx.tru = some b) (E : EnvOk A K W H σ e) (rx : Rv A W H tx x) : TruV K x H b := by
  cases tx <;> simp only [T.tru, Option.some.injEq, reduceCtorEq] at h
  · subst h; rw [rv_non rx]; rfl
  · subst h; rw [rv_bl rx]; rfl
  · subst h; rw [rv_int rx]; rfl
  · split at h
    · rename_i hs
      cases h
      rw [rv_str rx]
      exact ⟨hs, rfl⟩
    · cases h
  · subst h
    obtain ⟨a, vs, e1, h1, f⟩ := rv_lst E rx
    rw [e1]
    refine .inl ⟨vs, .inl (.inl h1), ?_⟩
    have := f.len
    rename_i ts
    cases ts <;> cases vs <;> simp_all
  · subst h
    obtain ⟨a, vs, e1, h1, f, -⟩ := rv_tup E rx
    rw [e1]
    refine .inr (.inl ⟨vs, .inl (.inl h1), ?_⟩)
    have := f.len
    rename_i ts
    cases ts <;> cases vs <;> simp_all
end
end PB
end
section
set_option Elab.async false
set_option linter.all false
set_option maxRecDepth 100000
/-! PB10: expressions, the first half. -/
namespace PB
open PySem PySem.Spec PyProof.Rows L2
section
variable (A : Cad) (K : PySem.W.Frag) (XE : XK) (C : Orc)
/-- e keeps what the evaluator says of ir; e looked at -/
abbrev Pe (X : Cx) (e : Expr) (ir : Ex) : Prop := PE X e (tE A K XE ir.quiet (ev C ir))
abbrev Pn (X : Cx) (e : Expr) (ir : Ex) : Prop := PE X e (tN A K XE ir.varOf ir.quiet (rdm ir (ev C ir)))
abbrev Pr (X : Cx) (e : Expr) (ir : Ex) : Prop := PE X e (tR A K XE ir.varOf ir.quiet (rdm ir (ev C ir)))
end
section
variable {A : Cad} {K : PySem.W.Frag} {XE : XK} {C : Orc} {X : Cx} {pos : Pos} {a b c d : Expr} {ia ib ic id : Ex}
theorem Pe.pr (h : Pe A K XE C X a ia) (n : ia.isVar = false) : Pr A K XE C X a ia := pr_other n h
theorem gd_ok {a : Ex} {q : Bool} {α : Type} {k : Unit → M α} {e e' : Ev} {out : Out α} (h : bnd (gd a q) k e = some (out, e')) : (a.varOf.isSome = true → q = true) ∧ k () e = some (out, e') := by
  obtain ⟨h1, h2⟩ := bnd_chk h
  refine ⟨fun z => ?_, h2⟩
  rw [varOf_isVar] at z
  simpa [z] using h1
theorem b_con {c : Const} {j : Nat} {t : T} (h : conOf c = some t) : Pe A K XE C X (.Constant c j pos) (.con t) := by
  have go : ∀ v, (∀ W, Fz A W t v) → PE X (.Constant c j pos) (tC v) → Pe A K XE C X (.Constant c j pos) (.con t) := fun v f p => PE.mono p fun σ H Q hh => by
    obtain ⟨W, e, out, e', E, hm, hp⟩ := hh
    simp only [ev, ret, Option.some.injEq, Prod.mk.injEq] at hm
    obtain ⟨h1, h2⟩ := hm
    subst h1 h2
    exact hp W H E (.refl _ W H _ σ) v (f W)
  cases c <;> simp only [conOf, Option.some.injEq, reduceCtorEq] at h <;> subst h
  · exact go .non (fun W => by simp only [Fz]) pe_non
  · exact go (.bl _) (fun W => by simp only [Fz]) pe_bl
  · exact go (.int _) (fun W => by simp only [Fz]) pe_int
  · exact go (.str _) (fun W => by simp only [Fz]) pe_str
/-- a module's text -/
theorem b_glob {x : Str} {s : Str} (hg : Gl X x) (hm : ∃ t, X.mg x = some (.str s t)) (hd : (x == ("__debug__" : Str)) = false) : Pe A K XE C X (.Name x pos) (.con (.str s)) := by
  obtain ⟨t, hm⟩ := hm
  refine PE.mono (pe_glob (v := .str s) hg hm ⟨t, rfl⟩ hd) fun σ H Q hh => ?_
  obtain ⟨W, e, out, e', E, hm, hp⟩ := hh
  simp only [ev, ret, Option.some.injEq, Prod.mk.injEq] at hm
  obtain ⟨h1, h2⟩ := hm
  subst h1 h2
  exact hp W H E (.refl _ W H _ σ) _ (by show Fz A W _ _; simp only [Fz])
theorem q2 {x y : Bool} : (x && y) = true → x = true ∧ y = true := fun h => Bool.and_eq_true_iff.mp h
theorem b_bin {o : Operator} {p : Bop} (ho : bopOf o = some p) (ha : Pr A K XE C X a ia) (hb : Pr A K XE C X b ib) : Pe A K XE C X (.BinOp a o b pos) (.bin p ia ib) := by
  refine PE.mono (pe_op (op_bin ho) ha hb) fun σ H Q hh => ?_
  obtain ⟨W, e, out, e', E, hm, hp⟩ := hh
  simp only [ev] at hm
  obtain ⟨hg, hm⟩ := gd_ok hm
  have hq : (Ex.bin p ia ib).quiet = true → ia.quiet = true ∧ ib.quiet = true := fun z => q2 (by simpa [Ex.quiet] using z)
  refine step E (.refl _ W H e.s σ) hm hp (fun z => (hq z).1) fun x e1 W1 H1 v1 hm E1 S1 s1 r1 => ?_
  refine step E1 S1 hm hp (fun z => (hq z).2) fun y e2 W2 H2 v2 hm E2 S2 s2 r2 => ?_
  obtain ⟨r, h1, h2, h3⟩ := opt_some hm
  subst h2 h3
  exact bin_ok h1 E2 S2 (r1.keep A s2 E2.le hg).rv r2.rv fun W' H' v E' S' R' => hp W' H' E' S' v R'
theorem b_neg (ha : Pr A K XE C X a ia) : Pe A K XE C X (.UnaryOp .USub a pos) (.neg ia) := by
  refine PE.mono (pe_un un_neg ha) fun σ H Q hh => ?_
  obtain ⟨W, e, out, e', E, hm, hp⟩ := hh
  simp only [ev] at hm
  refine step E (.refl _ W H e.s σ) hm hp (fun z => by simpa [Ex.quiet] using z) fun x e1 W1 H1 v1 hm E1 S1 s1 r1 => ?_
  obtain ⟨r, h1, h2, h3⟩ := opt_some hm
  subst h2 h3
  simp only [Option.map_eq_some_iff] at h1
  obtain ⟨i, h4, h5⟩ := h1
  subst h5
  cases x <;> simp only [toInt, Option.some.injEq, reduceCtorEq] at h4
  subst h4
  exact ⟨_, rv_int r1.rv, hp W1 H1 E1 S1 _ (by show Fz A W1 _ _; simp only [Fz])⟩
theorem b_cmp {o : CmpOp} {p : Cop} (hu : X.A.units + 64 < cLine) (hK : X.K = K) (ho : copOf o = some p) (hmk : behindInMarks o b = false) (ha : Pr A K XE C X a ia) (hb : Pr A K XE C X b ib) :
    Pe A K XE C X (.Compare a [o] [b] pos) (.cmp p ia ib) := by
  refine PE.mono (pe_cmpR (op_cmp hu ho) ha hb hmk) fun σ H Q hh => ?_
  obtain ⟨W, e, out, e', E, hm, hp⟩ := hh
  simp only [ev] at hm
  obtain ⟨hg, hm⟩ := gd_ok hm
  have hq : (Ex.cmp p ia ib).quiet = true → ia.quiet = true ∧ ib.quiet = true := fun z => q2 (by simpa [Ex.quiet] using z)
  refine step E (.refl _ W H e.s σ) hm hp (fun z => (hq z).1) fun x e1 W1 H1 v1 hm E1 S1 s1 r1 => ?_
  refine step E1 S1 hm hp (fun z => (hq z).2) fun y e2 W2 H2 v2 hm E2 S2 s2 r2 => ?_
  obtain ⟨r, h1, h2, h3⟩ := opt_some hm
  subst h2 h3
  simp only [Option.map_eq_some_iff] at h1
  obtain ⟨k, h4, h5⟩ := h1
  subst h5
  rw [hK]
  exact cmp_ok h4 E2 (r1.keep A s2 E2.le hg).rv r2.rv (hp W2 H2 E2 S2 _ (by show Fz A W2 _ _; simp only [Fz]))
theorem b_chain {o o' : CmpOp} {p p' : Cop} (hu : X.A.units + 64 < cLine) (hK : X.K = K) (ho : copOf o = some p) (ho' : copOf o' = some p') (hmk : lastMarks [o, o'] [b, c] = false)
    (ha : Pr A K XE C X a ia) (hb : Pr A K XE C X b ib) (hc : Pr A K XE C X c ic) : Pe A K XE C X (.Compare a [o, o'] [b, c] pos) (.chain p p' ia ib ic) := by
  refine PE.mono (pe_chain (op_cmp hu ho) (op_cmp hu ho') ha hb hc hmk) fun σ H Q hh => ?_
  obtain ⟨W, e, out, e', E, hm, hp⟩ := hh
  simp only [ev] at hm
  obtain ⟨hg, hm⟩ := gd_ok hm
  obtain ⟨hg', hm⟩ := gd_ok hm
  have hq : (Ex.chain p p' ia ib ic).quiet = true → ia.quiet = true ∧ ib.quiet = true ∧ ic.quiet = true := fun z => by
    simp only [Ex.quiet, Bool.and_eq_true] at z
    exact ⟨z.1.1, z.1.2, z.2⟩
  refine step E (.refl _ W H e.s σ) hm hp (fun z => (hq z).1) fun x e1 W1 H1 v1 hm E1 S1 s1 r1 => ?_
  refine step E1 S1 hm hp (fun z => (hq z).2.1) fun y e2 W2 H2 v2 hm E2 S2 s2 r2 => ?_
  obtain ⟨k, h4, hm⟩ := bnd_opt hm
  rw [hK]
  refine cmp_ok h4 E2 (r1.keep A s2 E2.le hg).rv r2.rv ⟨k, rfl, ?_⟩
  cases k with
  | false =>
    simp only [Bool.false_eq_true, if_false] at hm ⊢
    cases hm
    exact hp W2 H2 E2 S2 _ (by show Fz A W2 _ _; simp only [Fz])
  | true =>
    simp only [if_true] at hm ⊢
    refine step E2 S2 hm hp (fun z => (hq z).2.2) fun z e3 W3 H3 v3 hm E3 S3 s3 r3 => ?_
    obtain ⟨r, h1, h2, h3⟩ := opt_some hm
    subst h2 h3
    simp only [Option.map_eq_some_iff] at h1
    obtain ⟨k, h4, h5⟩ := h1
    subst h5
    exact cmp_ok h4 E3 (r2.keep A s3 E3.le hg').rv r3.rv (hp W3 H3 E3 S3 _ (by show Fz A W3 _ _; simp only [Fz]))
/-! truth -/
/-- a test's truth -/
def rB : Rel Bool Bool := fun _ _ _ _ _ _ k k' => k' = k
abbrev tT (A : Cad) (K : PySem.W.Frag) (XE : XK) (q : Bool) (m : M Bool) : TT := tM A K XE q rB m
theorem PT.mono {X : Cx} {e : Expr} {t t' : TT} (h : PT X e t) (f : ∀ σ H Q, t' σ H Q → t σ H Q) : PT X e t' :=
  ⟨fun pins s σ H Q I q => h.run pins s σ H Q I (f σ H Q q)⟩
/-- the test of an expression by its value -/
theorem t_plain (hK : X.K = K) (ha : Pr A K XE C X a ia) (he : ∀ whole, isTrue a X.env whole = (do let v ← whole; standAt a.pos; holding [v] (truthy v))) : PT X a (tT A K XE ia.quiet (tsm ia (ev C ia))) := by
  refine PT.mono (pt_truth ha he) fun σ H Q hh => ?_
  obtain ⟨W, e, out, e', E, hm, hp⟩ := hh
  rcases bnd_some hm with ⟨x, e1, h1, h2⟩ | ⟨Cx, fs, h1, h2⟩
  · refine ⟨W, e, .ok x, e1, E, h1, fun W1 H1 E1 S1 v r1 => ?_⟩
    obtain ⟨k, h3, h4, h5⟩ := opt_some h2
    subst h4 h5
    rw [hK]
    exact ⟨k, tru_ok' h3 E1 r1.rv, hp W1 H1 E1 S1 k rfl⟩
  · subst h2
    exact ⟨W, e, .exc Cx fs, e', E, h1, fun W1 H1 E1 S1 cls d x => hp W1 H1 E1 S1 cls d x⟩
/-- the test of an expression whose value is a truth, told by a test -/
theorem t_of_bool (n : ia.isVar = false) (hb : ∀ e t e', ev C ia e = some (.ok t, e') → ∃ k, t = (false, .bl k)) (h : PT X a (tT A K XE ia.quiet (tsm ia (ev C ia)))) : PT X a (tT A K XE ia.quiet (tsm ia (ev C ia))) := h
theorem b_ife (hc : PT X c (tT A K XE ic.quiet (tsm ic (ev C ic)))) (ha : Pe A K XE C X a ia) (hb : Pe A K XE C X b ib) : Pe A K XE C X (.IfExp c a b pos) (.ife ic ia ib) := by
  refine PE.mono (pe_ifExp hc ha hb) fun σ H Q hh => ?_
  obtain ⟨W, e, out, e', E, hm, hp⟩ := hh
  simp only [ev] at hm
  have hq : (Ex.ife ic ia ib).quiet = true → ic.quiet = true ∧ ia.quiet = true ∧ ib.quiet = true := fun z => by
    simp only [Ex.quiet, Bool.and_eq_true] at z
    exact ⟨z.1.1, z.1.2, z.2⟩
  refine step E (.refl _ W H e.s σ) hm hp (fun z => (hq z).1) fun k e1 W1 H1 v1 hm E1 S1 s1 r1 => ?_
  have r1 : v1 = k := r1
  subst r1
  cases v1 with
  | true =>
    simp only [if_true] at hm ⊢
    exact ⟨W1, e1, out, e', E1, hm, fun W2 H2 E2 S2 => by
      have z := hp W2 H2 E2 (S1.trans (S2.weak fun z => (hq z).2.1))
      cases out with
      | exc Cx fs => exact z
      | ok r => exact fun v rr => z v (Res.from rr S1)⟩
  | false =>
    simp only [Bool.false_eq_true, if_false] at hm ⊢
    exact ⟨W1, e1, out, e', E1, hm, fun W2 H2 E2 S2 => by
      have z := hp W2 H2 E2 (S1.trans (S2.weak fun z => (hq z).2.2))
      cases out with
      | exc Cx fs => exact z
      | ok r => exact fun v rr => z v (Res.from rr S1)⟩
end
end PB
end
section
set_option Elab.async false
set_option linter.all false
set_option maxRecDepth 100000
/-! PB11: and, or, not; tests. -/
namespace PB
open PySem PySem.Spec PyProof.Rows L2
section
variable {A : Cad} {K : PySem.W.Frag} {XE : XK} {C : Orc} {X : Cx} {pos : Pos} {a b c d : Expr} {ia ib ic id : Ex}
/-- e as a test keeps what the evaluator says of ir's truth -/
abbrev Pt (A : Cad) (K : PySem.W.Frag) (XE : XK) (C : Orc) (X : Cx) (e : Expr) (ir : Ex) : Prop := PT X e (tT A K XE ir.quiet (tsm ir (ev C ir)))
theorem tsm_other {m : M R} (n : ia.isVar = false) : tsm ia m = bnd m fun r => opt r.2.tru := by
  funext e
  unfold tsm
  rw [rdm_other n]
  unfold bnd
  cases h : m e with
  | none => rfl
  | some p =>
    obtain ⟨o, e1⟩ := p
    cases o <;> rfl
theorem light_some {t : T} {e e' : Ev} {out : Out R} (h : lightM t e = some (out, e')) : t.hv = false ∧ out = .ok (false, t) ∧ e' = e := by
  obtain ⟨r, h1, h2, h3⟩ := opt_some h
  split at h1
  · cases h1
  · rename_i hn
    cases h1
    exact ⟨by simpa using hn, h2, h3⟩
theorem ev_bool_fz {W : Wd} {k : Bool} : Fz A W (.bl k) (.bl k) := by simp only [Fz]
theorem b_not (ha : Pt A K XE C X a ia) (hv : Pr A K XE C X a ia) (hK : X.K = K) : Pe A K XE C X (.UnaryOp .Not a pos) (.not ia) := by
  refine PE.mono (pe_notT hv) fun σ H Q hh => ?_
  obtain ⟨W, e, out, e', E, hm, hp⟩ := hh
  simp only [ev] at hm
  rcases bnd_some hm with ⟨k, e1, h1, h2⟩ | ⟨Cx, fs, h1, h2⟩
  · cases h2
    obtain ⟨t, e2, h3, h4⟩ | ⟨_, _, h3, h4⟩ := bnd_some h1
    · obtain ⟨k', h5, h6, h7⟩ := opt_some h4
      cases h6; subst h7
      refine ⟨W, e, .ok t, e', E, h3, fun W1 H1 E1 S1 v r1 => ⟨k, by rw [hK]; exact tru_ok' h5 E1 r1.rv, hp W1 H1 E1 (S1.weak fun z => by simpa [Ex.quiet] using z) _ (show Fz A W1 _ _ from ev_bool_fz)⟩⟩
    · cases h4
  · subst h2
    obtain ⟨t, e2, h3, h4⟩ | ⟨C', fs', h3, h4⟩ := bnd_some h1
    · obtain ⟨_, _, h6, _⟩ := opt_some h4
      cases h6
    · cases h4
      exact ⟨W, e, .exc Cx fs, e', E, h3, fun W1 H1 E1 S1 cls d x => hp W1 H1 E1 (S1.weak fun z => by simpa [Ex.quiet] using z) cls d x⟩
theorem t_not (ha : Pt A K XE C X a ia) : Pt A K XE C X (.UnaryOp .Not a pos) (.not ia) := by
  refine PT.mono (pt_not ha) fun σ H Q hh => ?_
  obtain ⟨W, e, out, e', E, hm, hp⟩ := hh
  rw [tsm_other rfl] at hm
  simp only [ev] at hm
  have hq : (Ex.not ia).quiet = true → ia.quiet = true := fun z => by simpa [Ex.quiet] using z
  rcases bnd_some hm with ⟨r, e1, h1, h2⟩ | ⟨Cx, fs, h1, h2⟩
  · rcases bnd_some h1 with ⟨k, e2, h3, h4⟩ | ⟨_, _, _, h4⟩
    · cases h4
      obtain ⟨k', h5, h6, h7⟩ := opt_some h2
      simp only [T.tru, Option.some.injEq] at h5
      subst h5 h6 h7
      refine ⟨W, e, .ok k, e', E, h3, fun W1 H1 E1 S1 v r1 => ?_⟩
      have r1 : v = k := r1
      subst r1
      exact hp W1 H1 E1 (S1.weak hq) _ rfl
    · cases h4
  · rcases bnd_some h1 with ⟨k, e2, h3, h4⟩ | ⟨C', fs', h3, h4⟩
    · cases h4
    · cases h4
      subst h2
      exact ⟨W, e, .exc Cx fs, e', E, h3, fun W1 H1 E1 S1 cls d x => hp W1 H1 E1 (S1.weak hq) cls d x⟩
theorem t_cmp {o : CmpOp} {p : Cop} (hu : X.A.units + 64 < cLine) (hK : X.K = K) (ho : copOf o = some p) (hmk : behindInMarks o b = false) (ha : Pr A K XE C X a ia) (hb : Pr A K XE C X b ib) :
    Pt A K XE C X (.Compare a [o] [b] pos) (.cmp p ia ib) := by
  refine PT.mono (pt_cmpR (op_cmp hu ho) ha hb hmk) fun σ H Q hh => ?_
  obtain ⟨W, e, out, e', E, hm, hp⟩ := hh
  rw [tsm_other rfl] at hm
  simp only [ev] at hm
  have hq : (Ex.cmp p ia ib).quiet = true → ia.quiet = true ∧ ib.quiet = true := fun z => q2 (by simpa [Ex.quiet] using z)
  rcases bnd_some hm with ⟨r, e3, hm1, hm2⟩ | ⟨Cx, fs, hm1, hm2⟩
  · obtain ⟨hg, hm⟩ := gd_ok hm1
    obtain ⟨x, e1, h1, hm⟩ | ⟨_, _, _, hm⟩ := bnd_some hm
    · obtain ⟨y, e2, h2, hm⟩ | ⟨_, _, _, hm⟩ := bnd_some hm
      · obtain ⟨r', h3, h4, h5⟩ := opt_some hm
        cases h4; subst h5
        simp only [Option.map_eq_some_iff] at h3
        obtain ⟨k, h6, h7⟩ := h3
        subst h7
        obtain ⟨k', h8, h9, h10⟩ := opt_some hm2
        simp only [T.tru, Option.some.injEq] at h8
        subst h8 h9 h10
        refine ⟨W, e, .ok x, e1, E, h1, fun W1 H1 E1 S1 v1 r1 => ?_⟩
        refine ⟨W1, e1, .ok y, e', E1, h2, fun W2 H2 E2 S2 v2 r2 => ?_⟩
        rw [hK]
        exact cmp_ok h6 E2 (r1.keep A S2 E2.le hg).rv r2.rv ⟨k, rfl, hp W2 H2 E2 ((S1.weak fun z => (hq z).1).trans (S2.weak fun z => (hq z).2)) k rfl⟩
      · cases hm
    · cases hm
  · subst hm2
    obtain ⟨hg, hm⟩ := gd_ok hm1
    obtain ⟨x, e1, h1, hm⟩ | ⟨C', fs', h1, hm⟩ := bnd_some hm
    · obtain ⟨y, e2, h2, hm⟩ | ⟨C', fs', h2, hm⟩ := bnd_some hm
      · obtain ⟨_, _, h4, _⟩ := opt_some hm
        cases h4
      · cases hm
        refine ⟨W, e, .ok x, e1, E, h1, fun W1 H1 E1 S1 v1 r1 => ?_⟩
        exact ⟨W1, e1, .exc Cx fs, e', E1, h2, fun W2 H2 E2 S2 cls d xx => hp W2 H2 E2 ((S1.weak fun z => (hq z).1).trans (S2.weak fun z => (hq z).2)) cls d xx⟩
    · cases hm
      exact ⟨W, e, .exc Cx fs, e', E, h1, fun W1 H1 E1 S1 cls d xx => hp W1 H1 E1 (S1.weak fun z => (hq z).1) cls d xx⟩
/-- the parts of and, or: as values, as tests -/
def PeAll (A : Cad) (K : PySem.W.Frag) (XE : XK) (C : Orc) (X : Cx) : List Expr → List Ex → Prop
  | [], [] => True
  | e :: es, i :: is => (Pe A K XE C X e i ∧ Pr A K XE C X e i ∧ Pt A K XE C X e i) ∧ PeAll A K XE C X es is
  | _, _ => False
theorem qs_cons {e : Ex} {es : List Ex} : Ex.quiets (e :: es) = true → e.quiet = true ∧ Ex.quiets es = true := fun z => q2 (by simpa [Ex.quiets] using z)
theorem b_and : ∀ {es : List Expr} {is : List Ex}, X.K = K → PeAll A K XE C X es is → es ≠ [] → PE X (.BoolOp .And es pos) (tE A K XE (Ex.quiets is) (evAnd C is))
  | [], _, _, _, n => absurd rfl n
  | [e], [i], _, h, _ => by
    obtain ⟨⟨h1, _, _⟩, _⟩ := h
    refine PE.mono (pe_one h1) fun σ H Q hh => ?_
    obtain ⟨W, ev1, out, e', E, hm, hp⟩ := hh
    simp only [evAnd] at hm
    exact ⟨W, ev1, out, e', E, hm, fun W1 H1 E1 S1 => hp W1 H1 E1 (S1.weak fun z => (qs_cons z).1)⟩
  | e :: e2 :: es, i :: i2 :: is, hK, h, _ => by
    obtain ⟨⟨_, h1, _⟩, h2⟩ := h
    refine PE.mono (pe_andT h1 (b_and hK h2 (by simp))) fun σ H Q hh => ?_
    obtain ⟨W, v0, out, e', E, hm, hp⟩ := hh
    simp only [evAnd] at hm
    refine step E (.refl _ W H v0.s σ) hm hp (fun z => (qs_cons z).1) fun t e1 W1 H1 v1 hm E1 S1 s1 r1 => ?_
    obtain ⟨k, h4, hm⟩ := bnd_opt hm
    refine ⟨k, by rw [hK]; exact tru_ok' h4 E1 r1.rv, ?_⟩
    cases k with
    | true =>
      simp only [if_true] at hm ⊢
      exact ⟨W1, e1, out, e', E1, hm, fun W2 H2 E2 S2 => by
        have z := hp W2 H2 E2 (S1.trans (S2.weak fun z => (qs_cons z).2))
        cases out with
        | exc Cx fs => exact z
        | ok r => exact fun v rr => z v (Res.from rr S1)⟩
    | false =>
      simp only [Bool.false_eq_true, if_false] at hm ⊢
      obtain ⟨l, h5, h6⟩ := light_some hm
      subst h5 h6
      exact hp W1 H1 E1 S1 _ (rv_light l r1.rv)
  | [_], [], _, h, _ => by simp only [PeAll] at h
  | [_], _ :: _ :: _, _, h, _ => by simp only [PeAll, and_false] at h
  | _ :: _ :: _, [], _, h, _ => by simp only [PeAll] at h
  | _ :: _ :: _, [_], _, h, _ => by simp only [PeAll, and_false] at h
theorem b_or : ∀ {es : List Expr} {is : List Ex}, X.K = K → PeAll A K XE C X es is → es ≠ [] → PE X (.BoolOp .Or es pos) (tE A K XE (Ex.quiets is) (evOr C is))
  | [], _, _, _, n => absurd rfl n
  | [e], [i], _, h, _ => by
    obtain ⟨⟨h1, _, _⟩, _⟩ := h
    refine PE.mono (pe_one h1) fun σ H Q hh => ?_
    obtain ⟨W, ev1, out, e', E, hm, hp⟩ := hh
    simp only [evOr] at hm
    exact ⟨W, ev1, out, e', E, hm, fun W1 H1 E1 S1 => hp W1 H1 E1 (S1.weak fun z => (qs_cons z).1)⟩
  | e :: e2 :: es, i :: i2 :: is, hK, h, _ => by
    obtain ⟨⟨_, h1, _⟩, h2⟩ := h
    refine PE.mono (pe_orT h1 (b_or hK h2 (by simp))) fun σ H Q hh => ?_
    obtain ⟨W, v0, out, e', E, hm, hp⟩ := hh
    simp only [evOr] at hm
    refine step E (.refl _ W H v0.s σ) hm hp (fun z => (qs_cons z).1) fun t e1 W1 H1 v1 hm E1 S1 s1 r1 => ?_
    obtain ⟨k, h4, hm⟩ := bnd_opt hm
    refine ⟨k, by rw [hK]; exact tru_ok' h4 E1 r1.rv, ?_⟩
    cases k with
    | false =>
      simp only [Bool.false_eq_true, if_false] at hm ⊢
      exact ⟨W1, e1, out, e', E1, hm, fun W2 H2 E2 S2 => by
        have z := hp W2 H2 E2 (S1.trans (S2.weak fun z => (qs_cons z).2))
        cases out with
        | exc Cx fs => exact z
        | ok r => exact fun v rr => z v (Res.from rr S1)⟩
    | true =>
      simp only [if_true] at hm ⊢
      obtain ⟨l, h5, h6⟩ := light_some hm
      subst h5 h6
      exact hp W1 H1 E1 S1 _ (rv_light l r1.rv)
  | [_], [], _, h, _ => by simp only [PeAll] at h
  | [_], _ :: _ :: _, _, h, _ => by simp only [PeAll, and_false] at h
  | _ :: _ :: _, [], _, h, _ => by simp only [PeAll] at h
  | _ :: _ :: _, [_], _, h, _ => by simp only [PeAll, and_false] at h
/-- a test split into the value and its truth -/
theorem tsm_some {m : M R} {e e' : Ev} {out : Out Bool} (h : tsm ia m e = some (out, e')) :
    (∃ t k, rdm ia m e = some (.ok t, e') ∧ t.tru = some k ∧ out = .ok k) ∨ ∃ Cx fs, rdm ia m e = some (.exc Cx fs, e') ∧ out = .exc Cx fs := by
  rcases bnd_some h with ⟨t, e1, h1, h2⟩ | ⟨Cx, fs, h1, h2⟩
  · obtain ⟨k, h3, h4, h5⟩ := opt_some h2
    subst h5
    exact .inl ⟨t, k, h1, h3, h4⟩
  · exact .inr ⟨Cx, fs, h1, h2⟩
theorem evAnd_tru {es : List Ex} {e e' : Ev} {out : Out Bool} (h : bnd (evAnd C es) (fun r => opt r.2.tru) e = some (out, e')) (n : 2 ≤ es.length) :
    ∃ i is, es = i :: is ∧ ((∃ e1, tsm i (ev C i) e = some (.ok true, e1) ∧ bnd (evAnd C is) (fun r => opt r.2.tru) e1 = some (out, e')) ∨ (tsm i (ev C i) e = some (.ok false, e') ∧ out = .ok false) ∨
      ∃ Cx fs, tsm i (ev C i) e = some (.exc Cx fs, e') ∧ out = .exc Cx fs) := by
  match es, n with
  | i :: i2 :: is, _ =>
    refine ⟨i, i2 :: is, rfl, ?_⟩
    simp only [evAnd] at h
    rcases bnd_some h with ⟨r, e1, h1, h2⟩ | ⟨Cx, fs, h1, h2⟩
    · rcases bnd_some h1 with ⟨t, e2, h3, h4⟩ | ⟨_, _, _, h4⟩
      · obtain ⟨k, h5, h6⟩ := bnd_opt h4
        have ht : tsm i (ev C i) e = some (.ok k, e2) := by
          unfold tsm bnd
          rw [h3]
          unfold opt
          simp only [h5, Option.map_some]
        cases k with
        | true =>
          refine .inl ⟨e2, ht, ?_⟩
          simp only [if_true] at h6
          unfold bnd
          simp only [evAnd] at h6 ⊢
          rw [h6]
          exact h2
        | false =>
          simp only [Bool.false_eq_true, if_false] at h6
          obtain ⟨l, h7, h8⟩ := light_some h6
          cases h7; subst h8
          obtain ⟨k', h9, h10, h11⟩ := opt_some h2
          rw [h5] at h9
          cases h9; subst h10 h11
          exact .inr (.inl ⟨ht, rfl⟩)
      · cases h4
    · subst h2
      rcases bnd_some h1 with ⟨t, e2, h3, h4⟩ | ⟨C', fs', h3, h4⟩
      · obtain ⟨k, h5, h6⟩ := bnd_opt h4
        have ht : tsm i (ev C i) e = some (.ok k, e2) := by
          unfold tsm bnd
          rw [h3]
          unfold opt
          simp only [h5, Option.map_some]
        cases k with
        | true =>
          refine .inl ⟨e2, ht, ?_⟩
          simp only [if_true] at h6
          unfold bnd
          simp only [evAnd] at h6 ⊢
          rw [h6]
        | false =>
          simp only [Bool.false_eq_true, if_false] at h6
          obtain ⟨_, h7, _⟩ := light_some h6
          cases h7
      · cases h4
        refine .inr (.inr ⟨Cx, fs, ?_, rfl⟩)
        unfold tsm bnd
        rw [h3]
theorem evOr_tru {es : List Ex} {e e' : Ev} {out : Out Bool} (h : bnd (evOr C es) (fun r => opt r.2.tru) e = some (out, e')) (n : 2 ≤ es.length) :
    ∃ i is, es = i :: is ∧ ((∃ e1, tsm i (ev C i) e = some (.ok false, e1) ∧ bnd (evOr C is) (fun r => opt r.2.tru) e1 = some (out, e')) ∨ (tsm i (ev C i) e = some (.ok true, e') ∧ out = .ok true) ∨
      ∃ Cx fs, tsm i (ev C i) e = some (.exc Cx fs, e') ∧ out = .exc Cx fs) := by
  match es, n with
  | i :: i2 :: is, _ =>
    refine ⟨i, i2 :: is, rfl, ?_⟩
    simp only [evOr] at h
    rcases bnd_some h with ⟨r, e1, h1, h2⟩ | ⟨Cx, fs, h1, h2⟩
    · rcases bnd_some h1 with ⟨t, e2, h3, h4⟩ | ⟨_, _, _, h4⟩
      · obtain ⟨k, h5, h6⟩ := bnd_opt h4
        have ht : tsm i (ev C i) e = some (.ok k, e2) := by
          unfold tsm bnd
          rw [h3]
          unfold opt
          simp only [h5, Option.map_some]
        cases k with
        | false =>
          refine .inl ⟨e2, ht, ?_⟩
          simp only [Bool.false_eq_true, if_false] at h6
          unfold bnd
          simp only [evOr] at h6 ⊢
          rw [h6]
          exact h2
        | true =>
          simp only [if_true] at h6
          obtain ⟨l, h7, h8⟩ := light_some h6
          cases h7; subst h8
          obtain ⟨k', h9, h10, h11⟩ := opt_some h2
          rw [h5] at h9
          cases h9; subst h10 h11
          exact .inr (.inl ⟨ht, rfl⟩)
      · cases h4
    · subst h2
      rcases bnd_some h1 with ⟨t, e2, h3, h4⟩ | ⟨C', fs', h3, h4⟩
      · obtain ⟨k, h5, h6⟩ := bnd_opt h4
        have ht : tsm i (ev C i) e = some (.ok k, e2) := by
          unfold tsm bnd
          rw [h3]
          unfold opt
          simp only [h5, Option.map_some]
        cases k with
        | false =>
          refine .inl ⟨e2, ht, ?_⟩
          simp only [Bool.false_eq_true, if_false] at h6
          unfold bnd
          simp only [evOr] at h6 ⊢
          rw [h6]
        | true =>
          simp only [if_true] at h6
          obtain ⟨_, h7, _⟩ := light_some h6
          cases h7
      · cases h4
        refine .inr (.inr ⟨Cx, fs, ?_, rfl⟩)
        unfold tsm bnd
        rw [h3]
theorem t_and : ∀ {es : List Expr} {is : List Ex}, PeAll A K XE C X es is → es ≠ [] → PW X (.BoolOp .And es pos) (tT A K XE (Ex.quiets is) (bnd (evAnd C is) fun r => opt r.2.tru))
  | [], _, _, n => absurd rfl n
  | [e], [i], h, _ => by
    obtain ⟨⟨-, -, h3⟩, -⟩ := h
    refine ⟨fun wh pins s σ H Q I hh => (pw_and1 h3).run wh pins s σ H Q I ?_⟩
    obtain ⟨W, v0, out, e', E, hm, hp⟩ := hh
    simp only [evAnd] at hm
    have hp' : Post A K XE i.quiet rB W H v0.s σ out e' Q := fun W1 H1 E1 S1 => hp W1 H1 E1 (S1.weak fun z => (qs_cons z).1)
    cases n : i.isVar with
    | false => exact ⟨W, v0, out, e', E, by rw [tsm_other n]; exact hm, hp'⟩
    | true =>
      cases i <;> simp only [Ex.isVar, Bool.false_eq_true] at n
      rename_i j
      rcases bnd_some hm with ⟨r, e1, h1, h2⟩ | ⟨Cx, fs, h1, h2⟩
      · simp only [ev] at h1
        cases q1 : v0.s[j]? with
        | none => rw [q1] at h1; cases h1
        | some z =>
          rw [q1] at h1
          cases z with
          | none => cases h1
          | some r' =>
            obtain ⟨o, t⟩ := r'
            cases h1
            obtain ⟨k, h3, h4, h5⟩ := opt_some h2
            subst h4 h5
            refine ⟨W, v0, .ok k, v0, E, ?_, fun W1 H1 E1 S1 k' rk => ?_⟩
            · unfold tsm rdm rd bnd
              simp only [q1]
              unfold ret opt
              simp only [h3, Option.map_some]
            · obtain ⟨v, hv, _⟩ := E1.sl j _ q1
              obtain ⟨W', E', S', _⟩ := frz1_ok E1 S1 q1 hv
              exact hp' W' H1 E' S' k' rk
      · simp only [ev] at h1
        split at h1 <;> cases h1
  | e :: e2 :: es, i :: i2 :: is, h, _ => by
    obtain ⟨⟨_, _, h3⟩, h2⟩ := h
    refine ⟨fun wh pins s σ H Q I hh => (pw_and h3 (t_and h2 (by simp))).run wh pins s σ H Q I ?_⟩
    obtain ⟨W, v0, out, e', E, hm, hp⟩ := hh
    obtain ⟨i', is', z, hz⟩ := evAnd_tru hm (by simp)
    cases z
    rcases hz with ⟨e1, h4, h5⟩ | ⟨h4, h5⟩ | ⟨Cx, fs, h4, h5⟩
    · refine ⟨W, v0, .ok true, e1, E, h4, fun W1 H1 E1 S1 k rk => ?_⟩
      have rk : k = true := rk
      subst rk
      simp only [if_true]
      exact ⟨W1, e1, out, e', E1, h5, fun W2 H2 E2 S2 => by
        have z := hp W2 H2 E2 ((S1.weak fun z => (qs_cons z).1).trans (S2.weak fun z => (qs_cons z).2))
        cases out with
        | exc Cx fs => exact z
        | ok r => exact z⟩
    · subst h5
      refine ⟨W, v0, .ok false, e', E, h4, fun W1 H1 E1 S1 k rk => ?_⟩
      have rk : k = false := rk
      subst rk
      simp only [Bool.false_eq_true, if_false]
      exact hp W1 H1 E1 (S1.weak fun z => (qs_cons z).1) _ rfl
    · subst h5
      exact ⟨W, v0, .exc Cx fs, e', E, h4, fun W1 H1 E1 S1 cls d x => hp W1 H1 E1 (S1.weak fun z => (qs_cons z).1) cls d x⟩
  | [_], [], h, _ => by simp only [PeAll] at h
  | [_], _ :: _ :: _, h, _ => by simp only [PeAll, and_false] at h
  | _ :: _ :: _, [], h, _ => by simp only [PeAll] at h
  | _ :: _ :: _, [_], h, _ => by simp only [PeAll, and_false] at h
theorem t_or : ∀ {es : List Expr} {is : List Ex}, PeAll A K XE C X es is → es ≠ [] → PW X (.BoolOp .Or es pos) (tT A K XE (Ex.quiets is) (bnd (evOr C is) fun r => opt r.2.tru))
  | [], _, _, n => absurd rfl n
  | [e], [i], h, _ => by
    obtain ⟨⟨-, -, h3⟩, -⟩ := h
    refine ⟨fun wh pins s σ H Q I hh => (pw_or1 h3).run wh pins s σ H Q I ?_⟩
    obtain ⟨W, v0, out, e', E, hm, hp⟩ := hh
    simp only [evOr] at hm
    have hp' : Post A K XE i.quiet rB W H v0.s σ out e' Q := fun W1 H1 E1 S1 => hp W1 H1 E1 (S1.weak fun z => (qs_cons z).1)
    cases n : i.isVar with
    | false => exact ⟨W, v0, out, e', E, by rw [tsm_other n]; exact hm, hp'⟩
    | true =>
      cases i <;> simp only [Ex.isVar, Bool.false_eq_true] at n
      rename_i j
      rcases bnd_some hm with ⟨r, e1, h1, h2⟩ | ⟨Cx, fs, h1, h2⟩
      · simp only [ev] at h1
        cases q1 : v0.s[j]? with
        | none => rw [q1] at h1; cases h1
        | some z =>
          rw [q1] at h1
          cases z with
          | none => cases h1
          | some r' =>
            obtain ⟨o, t⟩ := r'
            cases h1
            obtain ⟨k, h3, h4, h5⟩ := opt_some h2
            subst h4 h5
            refine ⟨W, v0, .ok k, v0, E, ?_, fun W1 H1 E1 S1 k' rk => ?_⟩
            · unfold tsm rdm rd bnd
              simp only [q1]
              unfold ret opt
              simp only [h3, Option.map_some]
            · obtain ⟨v, hv, _⟩ := E1.sl j _ q1
              obtain ⟨W', E', S', _⟩ := frz1_ok E1 S1 q1 hv
              exact hp' W' H1 E' S' k' rk
      · simp only [ev] at h1
        split at h1 <;> cases h1
  | e :: e2 :: es, i :: i2 :: is, h, _ => by
    obtain ⟨⟨_, _, h3⟩, h2⟩ := h
    refine ⟨fun wh pins s σ H Q I hh => (pw_or h3 (t_or h2 (by simp))).run wh pins s σ H Q I ?_⟩
    obtain ⟨W, v0, out, e', E, hm, hp⟩ := hh
    obtain ⟨i', is', z, hz⟩ := evOr_tru hm (by simp)
    cases z
    rcases hz with ⟨e1, h4, h5⟩ | ⟨h4, h5⟩ | ⟨Cx, fs, h4, h5⟩
    · refine ⟨W, v0, .ok false, e1, E, h4, fun W1 H1 E1 S1 k rk => ?_⟩
      have rk : k = false := rk
      subst rk
      simp only [Bool.false_eq_true, if_false]
      exact ⟨W1, e1, out, e', E1, h5, fun W2 H2 E2 S2 => by
        have z := hp W2 H2 E2 ((S1.weak fun z => (qs_cons z).1).trans (S2.weak fun z => (qs_cons z).2))
        cases out with
        | exc Cx fs => exact z
        | ok r => exact z⟩
    · subst h5
      refine ⟨W, v0, .ok true, e', E, h4, fun W1 H1 E1 S1 k rk => ?_⟩
      have rk : k = true := rk
      subst rk
      simp only [if_true]
      exact hp W1 H1 E1 (S1.weak fun z => (qs_cons z).1) _ rfl
    · subst h5
      exact ⟨W, v0, .exc Cx fs, e', E, h4, fun W1 H1 E1 S1 cls d x => hp W1 H1 E1 (S1.weak fun z => (qs_cons z).1) cls d x⟩
  | [_], [], h, _ => by simp only [PeAll] at h
  | [_], _ :: _ :: _, h, _ => by simp only [PeAll, and_false] at h
  | _ :: _ :: _, [], h, _ => by simp only [PeAll] at h
  | _ :: _ :: _, [_], h, _ => by simp only [PeAll, and_false] at h
end
end PB
end
section
set_option Elab.async false
set_option linter.all false
set_option maxRecDepth 100000
/-! PB12: argument lists, displays, built-in functions. -/
namespace PB
open PySem PySem.Spec PyProof.Rows L2
section
variable {A : Cad} {K : PySem.W.Frag} {XE : XK} {C : Orc} {X : Cx} {pos p : Pos} {a b c d : Expr} {ia ib ic id : Ex}
def noStar : Expr → Bool
  | .Starred _ _ => false
  | _ => true
theorem star_ok {e : Expr} (h : noStar e = true) (es : List Expr) (env : Env) : starEach (e :: es) env = (false, eval e env) :: starEach es env := by
  cases e <;> first | rfl | cases h
theorem plain_ok : ∀ {es : List Expr}, es.all noStar = true → ∀ (pos : Pos) (env : Env), (backTo pos (starEach es env)).any (·.1) = false
  | [], _, _, _ => rfl
  | e :: es, h, pos, env => by
    simp only [List.all_cons, Bool.and_eq_true] at h
    rw [star_ok h.1]
    show ((false, _) :: backTo pos (starEach es env)).any (·.1) = false
    rw [List.any_cons, plain_ok h.2 pos env]
    rfl
theorem EnvOk.owt {W : Wd} {H : Hp} {σ : L2.St} {e : Ev} (E : EnvOk A K W H σ e) (i : Nat) (a : Addr) (w : Ow e.s σ i a) : H a ≠ none := by
  obtain ⟨_, _, _, o, ho, _⟩ := Ow.there E w
  rw [ho]; simp
/-- a taken value stands still -/
theorem res_fz {W W0 : Wd} {H H0 Hs : Hp} {σ : L2.St} {e : Ev} {q : Bool} {s0 : List (Option R)} {r : R} {v : V} (E : EnvOk A K W H σ e) (S : Stp q W0 H0 s0 σ W H e.s) (h0 : ∀ i a, Ow s0 σ i a → H0 a ≠ none) (hn : ∀ p, Hs p = none → H0 p = none)
    (h : Res A Hs W H r v) : ∃ W', EnvOk A K W' H σ e ∧ Stp q W0 H0 s0 σ W' H e.s ∧ Fz A W' r.2 v ∧ W.le W' := by
  obtain ⟨o, t⟩ := r
  cases o with
  | false => exact ⟨W, E, S, h, .refl W⟩
  | true =>
    obtain ⟨p, e1, ow, h1, nd⟩ := (show ∃ p, v = .ref p ∧ Own A W H t p ∧ Hs p = none ∧ NoDr W p from h)
    subst e1
    have hp0 := hn p h1
    have z := add_ok (B := fun a => a = p) (s' := e.s) E S (fun a b => by
      subst b
      exact ⟨nd, ow.1, .inr (.inl hp0)⟩) (Frzn.refl σ fun i a w b => by
        subst b
        exact h0 i a (S.own i a w) hp0)
    refine ⟨_, z.1, z.2, ?_, Wd.add_le W _ _⟩
    obtain ⟨g, o, ho, r⟩ := ow
    refine OwnO.fz A (r.mono A (Wd.add_le W H _)) ?_
    exact Wd.add_in (B := fun a => a = p) g rfl ho (OwnO.tb r)
def rL (A : Cad) : Rel (List T) (List V) := fun _ _ _ W' _ _ ts vs => FzL A W' ts vs
def RvL (A : Cad) (W : Wd) (H : Hp) (s : List (Option R)) (σ : L2.St) : List Ex → List T → List V → Prop
  | [], [], [] => True
  | e :: es, t :: ts, v :: vs => RvA A e.varOf W H s σ t v ∧ RvL A W H s σ es ts vs
  | _, _, _ => False
/-- an own object comes from a slot, or is new -/
def NwL (A : Cad) (W : Wd) (H : Hp) (H0 : Hp) (s0 : List (Option R)) (σ : L2.St) (ts : List T) (vs : List V) : Prop := ∀ t v p, (t, v) ∈ ts.zip vs → v = .ref p → Own A W H t p → H0 p = none ∨ ∃ j, Ow s0 σ j p
def rRL (A : Cad) (es : List Ex) : Rel (List T) (List V) := fun H s σ W' H' s' ts vs => RvL A W' H' s' σ es ts vs ∧ NwL A W' H' H s σ ts vs
abbrev tL (A : Cad) (K : PySem.W.Frag) (XE : XK) (q : Bool) (m : M (List T)) : TA := tM A K XE q (rL A) m
abbrev tRL (A : Cad) (K : PySem.W.Frag) (XE : XK) (es : List Ex) (q : Bool) (m : M (List T)) : TA := tM A K XE q (rRL A es) m
theorem PA.mono {X : Cx} {e : List Expr} {t t' : TA} (h : PA X e t) (f : ∀ σ H Q, t' σ H Q → t σ H Q) : PA X e t' :=
  ⟨fun pos pins s σ H Q I q => h.run pos pins s σ H Q I (f σ H Q q)⟩
/-- the items of a list of arguments -/
def PeL (A : Cad) (K : PySem.W.Frag) (XE : XK) (C : Orc) (X : Cx) : List Expr → List Ex → Prop
  | [], [] => True
  | e :: es, i :: is => (noStar e = true ∧ Pe A K XE C X e i ∧ Pn A K XE C X e i) ∧ PeL A K XE C X es is
  | _, _ => False
theorem PeL.star : ∀ {es : List Expr} {is : List Ex}, PeL A K XE C X es is → es.all noStar = true
  | [], [], _ => rfl
  | e :: es, i :: is, h => by
    simp only [PeL] at h
    simp only [List.all_cons, h.1.1, h.2.star, Bool.and_self]
  | [], _ :: _, h => by simp only [PeL] at h
  | _ :: _, [], h => by simp only [PeL] at h
theorem a_evs : ∀ {es : List Expr} {is : List Ex}, PeL A K XE C X es is → PA X es (tL A K XE (Ex.quiets is) (evs C is))
  | [], [], _ => PA.mono pa_nil fun σ H Q hh => by
    obtain ⟨W, e, out, e', E, hm, hp⟩ := hh
    simp only [evs, ret, Option.some.injEq, Prod.mk.injEq] at hm
    obtain ⟨h1, h2⟩ := hm
    subst h1 h2
    exact hp W H E (.refl _ W H _ σ) _ (by show FzL A W [] []; simp only [FzL])
  | e :: es, i :: is, h => by
    simp only [PeL] at h
    obtain ⟨⟨h1, h2, _⟩, h3⟩ := h
    refine PA.mono (pa_cons h2 (a_evs h3) (star_ok h1 es _)) fun σ H Q hh => ?_
    obtain ⟨W, e0, out, e', E, hm, hp⟩ := hh
    simp only [evs] at hm
    refine step E (.refl _ W H e0.s σ) hm hp (fun z => (qs_cons z).1) fun r e1 W1 H1 v1 hm E1 S1 s1 r1 => ?_
    obtain ⟨W2, E2, S2, f2, l2⟩ := res_fz E1 S1 (fun i a w => E.owt i a w) (fun _ z => z) r1
    refine step E2 S2 hm hp (fun z => (qs_cons z).2) fun ts e3 W3 H3 vs hm E3 S3 s3 r3 => ?_
    simp only [ret, Option.some.injEq, Prod.mk.injEq] at hm
    obtain ⟨z1, z2⟩ := hm
    subst z1 z2
    exact hp W3 H3 E3 S3 _ (by show FzL A W3 (_ :: _) (_ :: _); simp only [FzL]; exact ⟨f2.mono A s3.wle, r3⟩)
  | [], _ :: _, h => by simp only [PeL] at h
  | _ :: _, [], h => by simp only [PeL] at h
theorem a_evRs : ∀ {es : List Expr} {is : List Ex}, PeL A K XE C X es is → PA X es (tRL A K XE is (Ex.quiets is) (evRs C is))
  | [], [], _ => PA.mono pa_nil fun σ H Q hh => by
    obtain ⟨W, e, out, e', E, hm, hp⟩ := hh
    simp only [evRs, ret, Option.some.injEq, Prod.mk.injEq] at hm
    obtain ⟨h1, h2⟩ := hm
    subst h1 h2
    exact hp W H E (.refl _ W H _ σ) _ ⟨(by show RvL A W H _ σ [] [] []; simp only [RvL]), fun t v p z => by cases z⟩
  | e :: es, i :: is, h => by
    simp only [PeL] at h
    obtain ⟨⟨h1, _, h2⟩, h3⟩ := h
    refine PA.mono (pa_cons h2 (a_evRs h3) (star_ok h1 es _)) fun σ H Q hh => ?_
    obtain ⟨W, e0, out, e', E, hm, hp⟩ := hh
    simp only [evRs] at hm
    obtain ⟨hg, hm⟩ := gd_ok hm
    refine step E (.refl _ W H e0.s σ) hm hp (fun z => (qs_cons z).1) fun r e1 W1 H1 v1 hm E1 S1 s1 r1 => ?_
    refine step E1 S1 hm hp (fun z => (qs_cons z).2) fun ts e3 W3 H3 vs hm E3 S3 s3 r3 => ?_
    simp only [ret, Option.some.injEq, Prod.mk.injEq] at hm
    obtain ⟨z1, z2⟩ := hm
    subst z1 z2
    refine hp W3 H3 E3 S3 _ ⟨(by show RvL A W3 H3 _ σ (_ :: _) (_ :: _) (_ :: _); simp only [RvL]; exact ⟨r1.1.keep A s3 E3.le hg, r3.1⟩), fun t v p z e4 ow => ?_⟩
    rw [List.zip_cons_cons, List.mem_cons] at z
    rcases z with z | z
    · cases z
      subst e4
      rcases r1.1.1 with z | ⟨p', e5, ow', _⟩
      · exact (fz_not_own E3 (z.mono A s3.wle) ow).elim
      · cases e5
        exact r1.2 p rfl ow'
    · rcases r3.2 t v p z e4 ow with z | ⟨j, z⟩
      · exact .inl (S1.dom p z)
      · exact .inr ⟨j, S1.own j p z⟩
  | [], _ :: _, h => by simp only [PeL] at h
  | _ :: _, [], h => by simp only [PeL] at h
/-! displays -/
theorem b_lst {es : List Expr} {is : List Ex} (h : PeL A K XE C X es is) : Pe A K XE C X (.List es pos) (.lst is) := by
  refine PE.mono (pe_lst (a_evs h)) fun σ H Q hh => ?_
  obtain ⟨W, e, out, e', E, hm, hp⟩ := hh
  simp only [ev] at hm
  refine step E (.refl _ W H e.s σ) hm hp (fun z => by simpa [Ex.quiet] using z) fun ts e1 W1 H1 vs hm E1 S1 s1 r1 => ?_
  obtain ⟨hc, hm⟩ := bnd_chk hm
  cases hm
  have f : FzL A W1 ts vs := r1
  refine ⟨by rw [← f.len]; simpa using hc, ?_⟩
  exact Kon.lst (fun W' H' v E' S' R' => hp W' H' E' S' v R') E1 S1 f
theorem b_tup {es : List Expr} {is : List Ex} {k : Nat} (h : PeL A K XE C X es is) : Pe A K XE C X (.Tuple es k pos) (.tup is) := by
  refine PE.mono (pe_tup (a_evs h)) fun σ H Q hh => ?_
  obtain ⟨W, e, out, e', E, hm, hp⟩ := hh
  simp only [ev] at hm
  refine step E (.refl _ W H e.s σ) hm hp (fun z => by simpa [Ex.quiet] using z) fun ts e1 W1 H1 vs hm E1 S1 s1 r1 => ?_
  obtain ⟨hc, hm⟩ := bnd_chk hm
  cases hm
  have f : FzL A W1 ts vs := r1
  refine ⟨by rw [← f.len]; simpa using hc, ?_⟩
  exact Kon.tup (fun W' H' v E' S' R' => hp W' H' E' S' v R') E1 S1 f
theorem b_dnew {t : Bool} : Pe A K XE C X (.Dict [] [] pos) (.dnew t) := by
  cases t with
  | false =>
    refine PE.mono pe_dnewK fun σ H Q hh => ?_
    obtain ⟨W, e, out, e', E, hm, hp⟩ := hh
    simp only [ev] at hm
    cases hm
    intro p hn
    obtain ⟨E1, S1, R1⟩ := new_own (q := (Ex.dnew false).quiet) (o := .dK []) (t := .dK []) E (.refl _ W H e.s σ) hn ⟨[], rfl, by simp only [FzK]⟩
    exact hp _ _ E1 S1 _ R1
  | true =>
    refine PE.mono pe_dnewT fun σ H Q hh => ?_
    obtain ⟨W, e, out, e', E, hm, hp⟩ := hh
    simp only [ev] at hm
    cases hm
    intro p hn
    obtain ⟨E1, S1, R1⟩ := new_own (q := (Ex.dnew true).quiet) (o := .dT []) (t := .dT []) E (.refl _ W H e.s σ) hn ⟨[], rfl, by simp only [FzT]⟩
    exact hp _ _ E1 S1 _ R1
/-! built-in functions -/
abbrev R1L := List V → Hp → VK → Prop
def rLenA (K : PySem.W.Frag) : R1L := fun xs H Q => (∃ x n, xs = [x] ∧ LenV K x H n ∧ Q (.int n) H) ∨ ((∃ a kvs, xs = [V.ref a] ∧ Rd H a (.dK kvs) ∧ Q (.int kvs.length) H) ∨ ∃ a kvs, xs = [V.ref a] ∧ Rd H a (.dT kvs) ∧ Q (.int kvs.length) H)
theorem call_lenA : CallR X (.builtin "len") (rLenA X.K) := by
  refine CallR.or call_len (CallR.or ?_ ?_)
  · intro pins s σ H xs us Q I r h
    obtain ⟨a, kvs, rfl, ha, q⟩ := h
    obtain ⟨u, rfl, ru⟩ := vals1 r
    cases ru
    exact d_len I ha fun t s' I' => ⟨.int kvs.length, H, I', ⟨t, rfl⟩, q⟩
  · intro pins s σ H xs us Q I r h
    obtain ⟨a, kvs, rfl, hp, q⟩ := h
    obtain ⟨u, rfl, rx⟩ := vals1 r
    obtain rfl : u = .ref a := rx
    obtain ⟨z, hd, ys, rel, dd⟩ := dt_rd I.hok hp
    have hl : kvs.length = ys.length := Paired.length rel
    refine call_len_dictH hd dd (by rw [← hl]; rw [sizeLine_eq] at z; omega) ?_
    rw [← hl]
    exact ⟨.int ((kvs.length : Nat) : Int), H, I.tok _, ⟨_, rfl⟩, q⟩
def rListA (K : PySem.W.Frag) : R1L := fun xs H Q => (∃ p ys, xs = [.ref p] ∧ (SqL K H p ys ∨ SqT K H p ys) ∧ ∀ l, H l = none → Q (.ref l) (upd H l (.lst ys))) ∨
  ((∃ (a : Addr) (kvs : List (Key × V)), xs = [.ref a] ∧ Rd H a (.dK kvs) ∧ ∀ p, H p = none → Q (.ref p) (upd H p (.lst (kvs.map fun kv => kV kv.1)))) ∨
   ∃ d kvs, xs = [V.ref d] ∧ Rd H d (.dT kvs) ∧ ∀ p bs, H p = none → IsKeys H kvs bs → Q (.ref p) (upd H p (.lst (bs.map V.ref))))
theorem call_listA (hc : X.calm = true) : CallR X (.type "list") (rListA X.K) := CallR.or call_list_of (CallR.or (call_listD hc) (call_list_dT hc))
/-- a built-in function or type of one argument -/
def rP1 (K : PySem.W.Frag) : P1 → R1L
  | .len => rLenA K
  | .abs => fun xs H Q => ∃ i, xs = [.int i] ∧ Q (.int (if i < 0 then -i else i)) H
  | .int => fun xs H Q => (∃ i, xs = [.int i] ∧ Q (.int i) H) ∨ ∃ k, xs = [.bl k] ∧ Q (.int (if k then 1 else 0)) H
  | .list => rListA K
  | .tuple => fun xs H Q => ∃ p ys, xs = [.ref p] ∧ ((SqL K H p ys ∧ ∀ l, H l = none → Q (.ref l) (upd H l (.tup ys))) ∨ (SqT K H p ys ∧ Q (.ref p) H))
  | .sum => rSum K
  | .any => rAny K
  | .all => rAll K
  | .max => rMax K
  | .min => rMin K
  | .str => fun xs H Q => ∃ i, xs = [.int i] ∧ i.natAbs.log2 < 1920 ∧ Q (.str (toString i)) H
theorem keysK_fz {W : Wd} : ∀ {kvs : List (Key × T)} {ws : List (Key × V)}, FzK A W kvs ws → FzL A W (kvs.map fun p => keyT p.1) (ws.map fun kv => kV kv.1)
  | [], [], _ => by simp only [List.map_nil, FzL]
  | (k, t) :: ts, (k', v) :: vs, h => by
    simp only [FzK] at h
    obtain ⟨e1, _, h2⟩ := h
    subst e1
    simp only [List.map_cons, FzL]
    exact ⟨keyT_fz k, keysK_fz h2⟩
  | [], _ :: _, h => by simp only [FzK] at h
  | _ :: _, [], h => by simp only [FzK] at h
theorem keysL_fz {W : Wd} : ∀ (ks : List Key), FzL A W (ks.map keyT) (ks.map kV)
  | [] => by simp only [List.map_nil, FzL]
  | k :: ks => by
    simp only [List.map_cons, FzL]
    exact ⟨keyT_fz k, keysL_fz ks⟩
section
variable {W W0 : Wd} {H H0 : Hp} {σ : L2.St} {e : Ev} {q : Bool} {s0 : List (Option R)} {Q : VK} {x : V} {tx : T} {r : R}
/-- tuples that stand in the heap stand still -/
theorem tups_ok (E : EnvOk A K W H σ e) (S : Stp q W0 H0 s0 σ W H e.s) (B : Addr → Prop) (hB : ∀ a, B a → ∃ vs, H a = some (.tup vs)) :
    ∃ W', EnvOk A K W' H σ e ∧ Stp q W0 H0 s0 σ W' H e.s ∧ W.le W' ∧ ∀ a, B a → W'.G a = H a := by
  have nod : ∀ a, (∃ vs, H a = some (.tup vs)) → NoDr W a := fun a ⟨vs, h⟩ d hd => by
    rcases hd with hd | ⟨e1, q, e2⟩
    case inr => exact E.tab h rfl e1 e2
    have z := E.dr
    unfold DrOk at z
    rw [hd] at z
    obtain ⟨x, y⟩ := d
    cases e1 : e.d with
    | none => rw [e1] at z; exact z.elim
    | some D =>
      rw [e1] at z
      obtain ⟨_, _, _, z1, z2⟩ := z
      exact ⟨fun w => (by subst w; rw [h] at z1; cases z1), fun w => (by subst w; rw [h] at z2; cases z2)⟩
  have z := add_ok (B := fun a => B a ∧ W.G a = none) (s' := e.s) E S (fun a b => ⟨nod a (hB a b.1), b.2, .inr (.inr (hB a b.1))⟩) (Frzn.refl σ fun i a w b => by
    obtain ⟨t, _, _, o, ho, ow⟩ := Ow.there E w
    obtain ⟨vs, hv⟩ := hB a b.1
    rw [hv] at ho
    cases ho
    cases t <;> simp only [OwnO] at ow
    · obtain ⟨_, z, _⟩ := ow; cases z
    · obtain ⟨_, z, _⟩ := ow; cases z
    · obtain ⟨_, z, _⟩ := ow; cases z
    · obtain ⟨_, _, z, _⟩ := ow; cases z)
  refine ⟨_, z.1, z.2, Wd.add_le _ _ _, fun a b => ?_⟩
  cases g : W.G a with
  | none =>
    obtain ⟨vs, hv⟩ := hB a b
    rw [hv]
    exact Wd.add_in g ⟨b, g⟩ hv rfl
  | some o =>
    rw [Wd.add_old g]
    obtain ⟨vs, hv⟩ := hB a b
    rcases E.le a o g with z | ⟨z1, ob, z⟩
    · rw [z]
    · rw [hv] at z; cases z
theorem isKeys_fz {W : Wd} {H : Hp} (g : ∀ a, (∃ vs, H a = some (.tup vs)) → W.G a = H a) : ∀ {kvs : List (List Key × T)} {ws : List (List Key × V)} {bs : List Addr}, FzT A W kvs ws → IsKeys H ws bs → FzL A W (kvs.map fun p => .tup (p.1.map keyT)) (bs.map V.ref)
  | [], [], _, _, h => by
    cases h
    simp only [List.map_nil, FzL]
  | (k, t) :: ts, (k', v) :: vs, _, f, h => by
    simp only [FzT] at f
    obtain ⟨e1, _, f2⟩ := f
    subst e1
    cases h with
    | cons h1 h2 =>
      simp only [List.map_cons, FzL]
      refine ⟨?_, isKeys_fz g f2 h2⟩
      simp only [Fz]
      exact ⟨_, _, rfl, (g _ ⟨_, h1⟩).trans h1, keysL_fz k⟩
  | [], _ :: _, _, f, _ => by simp only [FzT] at f
  | _ :: _, [], _, f, _ => by simp only [FzT] at f
theorem list_ok {ts : List T} (h : itemsT tx = some ts) (E : EnvOk A K W H σ e) (S : Stp q W0 H0 s0 σ W H e.s) (rx : Rv A W H tx x) (k : Kon A K q W0 H0 s0 σ e (true, .lst ts) Q) : rListA K [x] H Q := by
  cases tx <;> simp only [itemsT, Option.some.injEq, reduceCtorEq] at h <;> subst h
  · obtain ⟨a, vs, e1, h1, f⟩ := rv_lst E rx
    subst e1
    exact .inl ⟨a, vs, rfl, .inl (.inl (.inl h1)), k.lst E S f⟩
  · obtain ⟨a, vs, e1, h1, f, _⟩ := rv_tup E rx
    subst e1
    exact .inl ⟨a, vs, rfl, .inr (.inl (.inl h1)), k.lst E S f⟩
  · obtain ⟨a, vs, e1, h1, f⟩ := rv_dK E rx
    subst e1
    exact .inr (.inl ⟨a, vs, rfl, h1, k.lst E S (keysK_fz f)⟩)
  · obtain ⟨a, vs, e1, h1, f⟩ := rv_dT E rx
    subst e1
    refine .inr (.inr ⟨a, vs, rfl, h1, fun p bs hp hk => ?_⟩)
    obtain ⟨W', E', S', l, g⟩ := tups_ok E S (fun a => ∃ vs, H a = some (.tup vs)) fun _ z => z
    exact k.lst E' S' (isKeys_fz g (f.mono A l) hk) p hp
theorem ints_of {W : Wd} : ∀ {ts : List T} {vs : List V} {ns : List Int}, intsOf ts = some ns → FzL A W ts vs → vs = ns.map V.int
  | [], [], ns, h, _ => by simp only [intsOf, Option.some.injEq] at h; subst h; rfl
  | t :: ts, v :: vs, ns, h, f => by
    simp only [FzL] at f
    cases t <;> simp only [intsOf, reduceCtorEq, Option.map_eq_some_iff] at h
    obtain ⟨ms, h1, h2⟩ := h
    subst h2
    rw [List.map_cons, ← ints_of h1 f.2, rv_int (H := fun _ => none) (.inl f.1)]
  | [], _ :: _, _, _, f => by simp only [FzL] at f
  | _ :: _, [], _, _, f => by simp only [FzL] at f
theorem bools_of {W : Wd} : ∀ {ts : List T} {vs : List V} {ns : List Bool}, boolsOf ts = some ns → FzL A W ts vs → vs = ns.map V.bl
  | [], [], ns, h, _ => by simp only [boolsOf, Option.some.injEq] at h; subst h; rfl
  | t :: ts, v :: vs, ns, h, f => by
    simp only [FzL] at f
    cases t <;> simp only [boolsOf, reduceCtorEq, Option.map_eq_some_iff] at h
    obtain ⟨ms, h1, h2⟩ := h
    subst h2
    rw [List.map_cons, ← bools_of h1 f.2, rv_bl (H := fun _ => none) (.inl f.1)]
  | [], _ :: _, _, _, f => by simp only [FzL] at f
  | _ :: _, [], _, _, f => by simp only [FzL] at f
theorem fold_max : ∀ (xs : List Int) (x : Int), (xs.foldl max x ∈ x :: xs) ∧ ∀ y ∈ x :: xs, y ≤ xs.foldl max x
  | [], x => by simp
  | z :: xs, x => by
    obtain ⟨h1, h2⟩ := fold_max xs (max x z)
    simp only [List.foldl_cons]
    constructor
    · rcases List.mem_cons.mp h1 with h | h
      · rw [h]
        rcases Int.le_total x z with c | c
        · rw [Int.max_eq_right c]; simp
        · rw [Int.max_eq_left c]; simp
      · exact List.mem_cons_of_mem _ (List.mem_cons_of_mem _ h)
    · intro y hy
      have hm := h2 (max x z) (by simp)
      rcases List.mem_cons.mp hy with rfl | hy
      · exact Int.le_trans (Int.le_max_left _ _) hm
      · rcases List.mem_cons.mp hy with rfl | hy
        · exact Int.le_trans (Int.le_max_right _ _) hm
        · exact h2 y (List.mem_cons_of_mem _ hy)
theorem fold_min : ∀ (xs : List Int) (x : Int), (xs.foldl min x ∈ x :: xs) ∧ ∀ y ∈ x :: xs, xs.foldl min x ≤ y
  | [], x => by simp
  | z :: xs, x => by
    obtain ⟨h1, h2⟩ := fold_min xs (min x z)
    simp only [List.foldl_cons]
    constructor
    · rcases List.mem_cons.mp h1 with h | h
      · rw [h]
        rcases Int.le_total x z with c | c
        · rw [Int.min_eq_left c]; simp
        · rw [Int.min_eq_right c]; simp
      · exact List.mem_cons_of_mem _ (List.mem_cons_of_mem _ h)
    · intro y hy
      have hm := h2 (min x z) (by simp)
      rcases List.mem_cons.mp hy with rfl | hy
      · exact Int.le_trans hm (Int.min_le_left _ _)
      · rcases List.mem_cons.mp hy with rfl | hy
        · exact Int.le_trans hm (Int.min_le_right _ _)
        · exact h2 y (List.mem_cons_of_mem _ hy)
theorem p1_ok {f : P1} (h : prim1 f tx = some r) (E : EnvOk A K W H σ e) (S : Stp q W0 H0 s0 σ W H e.s) (rx : Rv A W H tx x) (k : Kon A K q W0 H0 s0 σ e r Q) : rP1 K f [x] H Q := by
  cases f with
  | len =>
    simp only [prim1, Option.map_eq_some_iff] at h
    obtain ⟨n, h1, h2⟩ := h
    subst h2
    cases tx <;> simp only [lenT, Option.some.injEq, reduceCtorEq] at h1
    · split at h1
      · rename_i hs
        cases h1
        rw [rv_str rx]
        exact .inl ⟨_, _, rfl, ⟨hs, rfl⟩, k.int E S⟩
      · cases h1
    · subst h1
      obtain ⟨a, vs, e1, h1, f⟩ := rv_lst E rx
      subst e1
      exact .inl ⟨_, vs.length, rfl, .inl ⟨vs, .inl (.inl h1), rfl⟩, by rw [← f.len]; exact k.int E S⟩
    · subst h1
      obtain ⟨a, vs, e1, h1, f, _⟩ := rv_tup E rx
      subst e1
      exact .inl ⟨_, vs.length, rfl, .inr ⟨vs, .inl (.inl h1), rfl⟩, by rw [← f.len]; exact k.int E S⟩
    · subst h1
      obtain ⟨a, vs, e1, h1, f⟩ := rv_dK E rx
      subst e1
      exact .inr (.inl ⟨_, vs, rfl, h1, by rw [← f.len]; exact k.int E S⟩)
    · subst h1
      obtain ⟨a, vs, e1, h1, f⟩ := rv_dT E rx
      subst e1
      exact .inr (.inr ⟨_, vs, rfl, h1, by rw [← f.len]; exact k.int E S⟩)
  | abs =>
    cases tx <;> simp only [prim1, Option.some.injEq, reduceCtorEq] at h
    subst h
    exact ⟨_, by rw [rv_int rx], k.int E S⟩
  | int =>
    cases tx <;> simp only [prim1, Option.some.injEq, reduceCtorEq] at h <;> subst h
    · exact .inr ⟨_, by rw [rv_bl rx], k.int E S⟩
    · exact .inl ⟨_, by rw [rv_int rx], k.int E S⟩
  | list =>
    simp only [prim1, Option.map_eq_some_iff] at h
    obtain ⟨ts, h1, h2⟩ := h
    subst h2
    exact list_ok h1 E S rx k
  | tuple =>
    cases tx <;> simp only [prim1, Option.some.injEq, reduceCtorEq] at h <;> subst h
    · obtain ⟨a, vs, e1, h1, f⟩ := rv_lst E rx
      subst e1
      exact ⟨a, vs, rfl, .inl ⟨.inl (.inl h1), k.tup E S f⟩⟩
    · obtain ⟨a, vs, e1, h1, f, g⟩ := rv_tup E rx
      subst e1
      exact ⟨a, vs, rfl, .inr ⟨.inl (.inl h1), k.imm E S (by simp only [Fz]; exact ⟨a, vs, rfl, g, f⟩)⟩⟩
  | sum =>
    cases tx <;> simp only [prim1, Option.map_eq_some_iff, reduceCtorEq] at h
    obtain ⟨ns, h1, h2⟩ := h
    subst h2
    obtain ⟨a, vs, e1, h2, f⟩ := rv_lst E rx
    subst e1
    rw [ints_of h1 f] at h2
    exact ⟨a, ns, rfl, .inl (.inl h2), k.int E S⟩
  | any =>
    cases tx <;> simp only [prim1, Option.map_eq_some_iff, reduceCtorEq] at h
    obtain ⟨ns, h1, h2⟩ := h
    subst h2
    obtain ⟨a, vs, e1, h2, f⟩ := rv_lst E rx
    subst e1
    rw [bools_of h1 f] at h2
    exact ⟨a, ns, rfl, .inl (.inl h2), k.bl E S⟩
  | all =>
    cases tx <;> simp only [prim1, Option.map_eq_some_iff, reduceCtorEq] at h
    obtain ⟨ns, h1, h2⟩ := h
    subst h2
    obtain ⟨a, vs, e1, h2, f⟩ := rv_lst E rx
    subst e1
    rw [bools_of h1 f] at h2
    exact ⟨a, ns, rfl, .inl (.inl h2), k.bl E S⟩
  | max =>
    cases tx <;> simp only [prim1, Option.map_eq_some_iff, Option.bind_eq_some_iff, reduceCtorEq] at h
    obtain ⟨m, ⟨ns, h1, h3⟩, h2⟩ := h
    subst h2
    obtain ⟨a, vs, e1, h2, f⟩ := rv_lst E rx
    subst e1
    rw [ints_of h1 f] at h2
    cases ns with
    | nil => cases h3
    | cons n ns =>
      simp only [greatest, Option.some.injEq] at h3
      obtain ⟨z1, z2⟩ := fold_max ns n
      rw [h3] at z1 z2
      refine ⟨a, n :: ns, rfl, .inl (.inl h2), by simp, fun m' hm hle => ?_⟩
      have : m' = m := Int.le_antisymm (z2 m' hm) (hle m z1)
      subst this
      exact k.int E S
  | min =>
    cases tx <;> simp only [prim1, Option.map_eq_some_iff, Option.bind_eq_some_iff, reduceCtorEq] at h
    obtain ⟨m, ⟨ns, h1, h3⟩, h2⟩ := h
    subst h2
    obtain ⟨a, vs, e1, h2, f⟩ := rv_lst E rx
    subst e1
    rw [ints_of h1 f] at h2
    cases ns with
    | nil => cases h3
    | cons n ns =>
      simp only [least, Option.some.injEq] at h3
      obtain ⟨z1, z2⟩ := fold_min ns n
      rw [h3] at z1 z2
      refine ⟨a, n :: ns, rfl, .inl (.inl h2), by simp, fun m' hm hle => ?_⟩
      have : m' = m := Int.le_antisymm (hle m z1) (z2 m' hm)
      subst this
      exact k.int E S
  | str =>
    cases tx <;> simp only [prim1, reduceCtorEq] at h
    split at h
    · rename_i hs
      cases h
      exact ⟨_, by rw [rv_int rx], hs, k.str E S⟩
    · cases h
end
end
end PB
end
section
set_option Elab.async false
set_option linter.all false
set_option maxRecDepth 100000
/-! PB13: built-in functions called, isinstance, fields, subscripts. -/
namespace PB
open PySem PySem.Spec PyProof.Rows L2
section
variable {A : Cad} {K : PySem.W.Frag} {XE : XK} {C : Orc} {X : Cx} {pos p : Pos} {a b c d : Expr} {ia ib ic id : Ex}
/-- a built-in name, not the module's -/
structure Bn (X : Cx) (x : Str) : Prop where
  gl : Gl X x
  no : X.mg x = none
theorem p1_boot (hc : X.calm = true) {x : Str} {f : P1} (h : p1Of x = some f) : x ≠ "__name__" ∧ (x == ("__debug__" : Str)) = false ∧
    ((∃ id, bootBuiltins x = some (.builtin id) ∧ CallR X (.builtin id) (rP1 X.K f)) ∨ ∃ t, bootBuiltins x = some (.type t) ∧ CallR X (.type t) (rP1 X.K f)) := by
  unfold p1Of at h
  split at h
  · rename_i e; subst e; cases h
    exact ⟨by decide, by decide, .inl ⟨_, by decide +kernel, call_lenA⟩⟩
  split at h
  · rename_i e; subst e; cases h
    exact ⟨by decide, by decide, .inl ⟨_, by decide +kernel, call_abs⟩⟩
  split at h
  · rename_i e; subst e; cases h
    exact ⟨by decide, by decide, .inr ⟨_, by decide +kernel, call_int1⟩⟩
  split at h
  · rename_i e; subst e; cases h
    exact ⟨by decide, by decide, .inr ⟨_, by decide +kernel, call_listA hc⟩⟩
  split at h
  · rename_i e; subst e; cases h
    exact ⟨by decide, by decide, .inr ⟨_, by decide +kernel, call_tuple_of⟩⟩
  split at h
  · rename_i e; subst e; cases h
    exact ⟨by decide, by decide, .inl ⟨_, by decide +kernel, cr_sum hc⟩⟩
  split at h
  · rename_i e; subst e; cases h
    exact ⟨by decide, by decide, .inl ⟨_, by decide +kernel, cr_any hc⟩⟩
  split at h
  · rename_i e; subst e; cases h
    exact ⟨by decide, by decide, .inl ⟨_, by decide +kernel, cr_all hc⟩⟩
  split at h
  · rename_i e; subst e; cases h
    exact ⟨by decide, by decide, .inl ⟨_, by decide +kernel, cr_max hc⟩⟩
  split at h
  · rename_i e; subst e; cases h
    exact ⟨by decide, by decide, .inl ⟨_, by decide +kernel, cr_min hc⟩⟩
  split at h
  · rename_i e; subst e; cases h
    exact ⟨by decide, by decide, .inr ⟨_, by decide +kernel, call_str_int⟩⟩
  · cases h
theorem b_p1 {x : Str} {f : P1} (hc : X.calm = true) (hK : X.K = K) (hf : p1Of x = some f) (hb : Bn X x) (hs : noStar a = true) (ha : Pr A K XE C X a ia) : Pe A K XE C X (.Call (.Name x p) [a] [] pos) (.p1 f ia) := by
  obtain ⟨hn, hd, hr⟩ := p1_boot hc hf
  have hst := star_ok hs [] X.env
  have main : PE X (.Call (.Name x p) [a] [] pos) (tCB (rP1 X.K f) (tCons (tR A K XE ia.varOf ia.quiet (rdm ia (ev C ia))) tNil)) := by
    rcases hr with ⟨id, h1, h2⟩ | ⟨t, h1, h2⟩
    · exact pe_callB h2 hb.gl hb.no h1 (pa_cons ha pa_nil hst) hn hd hst (plain_ok (es := []) rfl _ _)
    · exact pe_callTy h2 hb.gl hb.no h1 (pa_cons ha pa_nil hst) hn hd hst (plain_ok (es := []) rfl _ _)
  refine PE.mono main fun σ H Q hh => ?_
  obtain ⟨W, e, out, e', E, hm, hp⟩ := hh
  simp only [ev] at hm
  refine step E (.refl _ W H e.s σ) hm hp (fun z => by simpa [Ex.quiet] using z) fun x e1 W1 H1 v1 hm E1 S1 s1 r1 => ?_
  obtain ⟨r, h1, h2, h3⟩ := opt_some hm
  subst h2 h3
  rw [hK]
  exact p1_ok h1 E1 S1 r1.rv fun W' H' v E' S' R' => hp W' H' E' S' v R'
theorem b_p2 {x : Str} {f : P2} (hc : X.calm = true) (hf : p2Of x = some f) (hb : Bn X x) (hs : noStar a = true) (hs2 : noStar b = true) (ha : Pr A K XE C X a ia) (hbb : Pr A K XE C X b ib) :
    Pe A K XE C X (.Call (.Name x p) [a, b] [] pos) (.p2 f ia ib) := by
  have hst := star_ok hs [b] X.env
  have hst2 := star_ok hs2 [] X.env
  have hpl := plain_ok (es := [b]) (by simp [hs2]) pos X.env
  have fin : ∀ {W W0 : Wd} {H H0 : Hp} {σ : L2.St} {e : Ev} {q : Bool} {s0 : List (Option R)} {r : R} {tx ty : T} {x y : V} {Q : VK}, prim2 f tx ty = some r → EnvOk A K W H σ e → Stp q W0 H0 s0 σ W H e.s → Rv A W H tx x → Rv A W H ty y → Kon A K q W0 H0 s0 σ e r Q →
      ∃ i j, [x, y] = [V.int i, V.int j] ∧ (f = .max → Q (.int (if j > i then j else i)) H) ∧ (f = .min → Q (.int (if j < i then j else i)) H) := by
    intro W W0 H H0 σ e q s0 r tx ty x y Q h E S rx ry k
    unfold prim2 at h
    split at h
    · cases h
      exact ⟨_, _, by rw [rv_int rx, rv_int ry], fun _ => k.int E S, fun z => nomatch z⟩
    · cases h
      exact ⟨_, _, by rw [rv_int rx, rv_int ry], fun z => (nomatch z), fun _ => k.int E S⟩
    · cases h
  have main : PE X (.Call (.Name x p) [a, b] [] pos) (tCB (fun xs H Q => ∃ i j, xs = [V.int i, V.int j] ∧ (f = .max → Q (.int (if j > i then j else i)) H) ∧ (f = .min → Q (.int (if j < i then j else i)) H))
      (tCons (tR A K XE ia.varOf ia.quiet (rdm ia (ev C ia))) (tCons (tR A K XE ib.varOf ib.quiet (rdm ib (ev C ib))) tNil))) := by
    unfold p2Of at hf
    split at hf
    · rename_i e; subst e; cases hf
      refine pe_callB (id := "max") ?_ hb.gl hb.no (by decide +kernel) (pa_cons ha (pa_cons hbb pa_nil hst2) hst) (by decide) (by decide) hst hpl
      intro pins s σ H xs us Q I r h
      obtain ⟨i, j, e1, h1, _⟩ := h
      exact call_max2 hc pins s σ H xs us Q I r ⟨i, j, e1, h1 rfl⟩
    split at hf
    · rename_i e; subst e; cases hf
      refine pe_callB (id := "min") ?_ hb.gl hb.no (by decide +kernel) (pa_cons ha (pa_cons hbb pa_nil hst2) hst) (by decide) (by decide) hst hpl
      intro pins s σ H xs us Q I r h
      obtain ⟨i, j, e1, _, h1⟩ := h
      exact call_min2 hc pins s σ H xs us Q I r ⟨i, j, e1, h1 rfl⟩
    · cases hf
  refine PE.mono main fun σ H Q hh => ?_
  obtain ⟨W, e, out, e', E, hm, hp⟩ := hh
  simp only [ev] at hm
  obtain ⟨hg, hm⟩ := gd_ok hm
  have hq : (Ex.p2 f ia ib).quiet = true → ia.quiet = true ∧ ib.quiet = true := fun z => q2 (by simpa [Ex.quiet] using z)
  refine step E (.refl _ W H e.s σ) hm hp (fun z => (hq z).1) fun x e1 W1 H1 v1 hm E1 S1 s1 r1 => ?_
  refine step E1 S1 hm hp (fun z => (hq z).2) fun y e2 W2 H2 v2 hm E2 S2 s2 r2 => ?_
  obtain ⟨r, h1, h2, h3⟩ := opt_some hm
  subst h2 h3
  exact fin h1 E2 S2 (r1.keep A s2 E2.le hg).rv r2.rv fun W' H' v E' S' R' => hp W' H' E' S' v R'
/-! isinstance -/
/-- what the written part says of the classes: one own class's instances, exceptions -/
structure ClsOk (K : PySem.W.Frag) (A : Cad) : Prop where
  base : ∀ x ∈ A.cl, ∀ n ∈ ["NoneType", "bool", "int", "str", "list", "tuple", "dict"], PySem.W.kitOne K (.type n) (.ref (A.ad x)) = some false
  own : ∀ x ∈ A.cl, ∀ n ∈ ["bool", "int", "str", "list", "tuple", "dict"], PySem.W.kitOne K (.ref (A.ad x)) (.type n) = some false
  pair : ∀ x ∈ A.cl, ∀ y ∈ A.cl, PySem.W.kitOne K (.ref (A.ad x)) (.ref (A.ad y)) = some (x == y)
  kc : ∀ x ∈ A.cl, Cls K (A.ad x)
  cl1 : ∀ x ∈ A.cl, PySem.W.findIn K (.ref (A.ad x)) "__class__" = some (some (.builtin "object.__class__"))
  cl2 : PySem.W.specialIn K (.builtin "object.__class__") "__get__" = some (some (.builtin "getset_descriptor.__get__"))
  cl3 : PySem.W.takesIn K (.builtin "object.__class__") = some true
  cl4 : ∀ x ∈ A.cl, PySem.W.mroIn K (A.ad x) (.type "object") = some true
def clV (A : Cad) : Cl → V
  | .ty n => .ty n
  | .own x => .ref (A.ad x)
def clU (A : Cad) : Cl → Value
  | .ty n => .type n
  | .own x => .ref (A.ad x)
def Cl.ok (cls : List Str) : Cl → Bool
  | .ty n => ["bool", "int", "str", "list", "tuple", "dict"].contains n
  | .own x => cls.contains x
/-- a value's type, locked dicts too -/
inductive TyY (K : PySem.W.Frag) (H : Hp) : V → Value → Prop where
  | of {x : V} {t : Value} (h : TyX K H x t) : TyY K H x t
  | fT {a : Addr} {o : Obj} {kvs : List (List Key × V)} (e : H a = some (.frz o (.dT kvs))) : TyY K H (.ref a) (.type "dict")
theorem kit_ofY {pins : List (Addr × Obj)} {σ : L2.St} {H : Hp} {s : Shared} {x : V} {u t : Value} (I : Inv X pins σ H s) (rx : RelV x u) (ty : TyY X.K H x t) : ∃ P : Heap → Prop, PySem.W.KitX X.K u t P ∧ P s.heap ∧ u ≠ .builtin "__main__.__loader__#opaque" := by
  cases ty with
  | of h => exact kit_of I rx h
  | @fT a ob kvs ea =>
    cases (show u = Value.ref a from rx)
    obtain ⟨_, _, _, xs, _, o, es, ep, h1, h2, _⟩ := (show ObjOk X.prog X.w H s.heap a (.frz ob (.dT kvs)) from I.hok a _ ea)
    exact ⟨_, PySem.W.kitx_dict, ⟨o, h1, h2.1⟩, fun z => nomatch z⟩
theorem call_isiY : CallR X (.builtin "isinstance") (fun xs H Q => ∃ (x c : V) (t u : Value) (b : Bool), xs = [x, c] ∧ ClsV c u ∧ TyY X.K H x t ∧ PySem.W.kitOne X.K t u = some b ∧ Q (.bl b) H) := by
  intro pins s σ H xs us Q I r h
  obtain ⟨x, c, t, u, b, rfl, k, ty, e, q⟩ := h
  obtain ⟨u1, u2, rfl, r1, r2⟩ := vals2 r
  have e2 := k.eq r2
  subst e2
  obtain ⟨P, Z, p, hx⟩ := kit_ofY I r1 ty
  exact PySem.W.kia_one Z I.kIn p e hx fun tk => ⟨.bl b, H, I.tok tk, rfl, q⟩
theorem call_isiTY : CallR X (.builtin "isinstance") (fun xs H Q => ∃ (x : V) (tp : Addr) (cs : List V) (t : Value) (us : List Value) (b : Bool), xs = [x, .ref tp] ∧ H tp = some (.tup cs) ∧ Paired ClsV cs us ∧ TyY X.K H x t ∧ PySem.W.kitAny X.K t us = some b ∧ Q (.bl b) H) := by
  intro pins s σ H xs us Q I r h
  obtain ⟨x, tp, cs, t, ws, b, rfl, hT, k, ty, e, q⟩ := h
  obtain ⟨u1, u2, rfl, r1, r2⟩ := vals2 r
  cases (show u2 = Value.ref tp from r2)
  obtain ⟨P, Z, p, hx⟩ := kit_ofY I r1 ty
  obtain ⟨_, its, rv, o, h1, h2, n, h3⟩ := (show ObjOk X.prog X.w H s.heap tp (.tup cs) from I.hok tp _ hT)
  have e3 := ClsV.all k rv
  subst e3
  obtain ⟨oc, od, dt, sl⟩ := o
  simp only at h2 h3
  subst h2 h3
  exact PySem.W.kia_tup Z I.kIn p h1 e hx fun tk => ⟨.bl b, H, I.tok tk, rfl, q⟩
theorem kit_tab : ∀ n ∈ ["NoneType", "bool", "int", "str", "list", "tuple", "dict"], ∀ m ∈ ["bool", "int", "str", "list", "tuple", "dict"], kitB n m = some (subTy n m) := by decide +kernel
def Cls6 : List String := ["bool", "int", "str", "list", "tuple", "dict"]
theorem nt_of (O : ClsOk K A) {t : T} {n : String} (h : t.ty = some n) {c : Cl} {k : Bool} (hc : c.ok A.cl = true) (hi : t.isi c = some k) : PySem.W.kitOne K (.type n) (clU A c) = some k := by
  have hn : n ∈ ["NoneType", "bool", "int", "str", "list", "tuple", "dict"] := by
    cases t <;> simp only [T.ty, Option.some.injEq, reduceCtorEq] at h <;> subst h <;> decide
  cases c with
  | ty m =>
    have z : subTy n m = k := by
      cases t <;> simp only [T.ty, Option.some.injEq, reduceCtorEq] at h <;> subst h <;> simpa [T.isi, T.ty] using hi
    rw [← z]
    exact kit_ty (kit_tab n hn m (by simpa [Cl.ok] using hc))
  | own y =>
    have z : k = false := by
      cases t <;> simp only [T.ty, Option.some.injEq, reduceCtorEq] at h <;> simpa [T.isi, T.ty] using hi.symm
    rw [z]
    exact O.base y (by simpa [Cl.ok] using hc) n hn
/-- a value's type, and what the classes say of it -/
theorem ty_of (O : ClsOk K A) {W : Wd} {H : Hp} {σ : L2.St} {e : Ev} {t : T} {x : V} {c0 : Cl} {k0 : Bool} (h0 : t.isi c0 = some k0) (E : EnvOk A K W H σ e) (rx : Rv A W H t x) :
    ∃ ty, TyY K H x ty ∧ ∀ c k, c.ok A.cl = true → t.isi c = some k → PySem.W.kitOne K ty (clU A c) = some k := by
  cases t with
  | non => rw [rv_non rx]; exact ⟨_, .of (.base .non), fun c k hc h => nt_of O rfl hc h⟩
  | bl b => rw [rv_bl rx]; exact ⟨_, .of (.base (.bl b)), fun c k hc h => nt_of O rfl hc h⟩
  | int b => rw [rv_int rx]; exact ⟨_, .of (.base (.int b)), fun c k hc h => nt_of O rfl hc h⟩
  | str b => rw [rv_str rx]; exact ⟨_, .of (.base (.str b)), fun c k hc h => nt_of O rfl hc h⟩
  | lst b => obtain ⟨a, vs, z, h1, _⟩ := rv_lst E rx; rw [z]; exact ⟨_, .of (.base (.lst h1)), fun c k hc h => nt_of O rfl hc h⟩
  | tup b => obtain ⟨a, vs, z, h1, _⟩ := rv_tup E rx; rw [z]; exact ⟨_, .of (.base (.tup h1)), fun c k hc h => nt_of O rfl hc h⟩
  | dK b =>
    obtain ⟨a, vs, z, h1, _⟩ := rv_dK E rx
    rw [z]
    rcases h1 with h1 | ⟨o, h1⟩
    · exact ⟨_, .of (.base (.dK h1)), fun c k hc h => nt_of O rfl hc h⟩
    · exact ⟨_, .of (.fDict h1), fun c k hc h => nt_of O rfl hc h⟩
  | dT b =>
    obtain ⟨a, vs, z, h1, _⟩ := rv_dT E rx
    rw [z]
    rcases h1 with h1 | ⟨o, h1⟩
    · exact ⟨_, .of (.base (.dT h1)), fun c k hc h => nt_of O rfl hc h⟩
    · exact ⟨_, .fT h1, fun c k hc h => nt_of O rfl hc h⟩
  | ins D fs =>
    obtain ⟨a, dx, vs, z, h1, _, hD⟩ := rv_ins E rx
    rw [z]
    refine ⟨_, .of (.base (.ins h1 (O.kc D hD) (O.cl1 D hD) O.cl2 O.cl3 (O.cl4 D hD))), fun c k hc h => ?_⟩
    cases c with
    | ty m =>
      simp only [T.isi, Option.some.injEq] at h
      subst h
      exact O.own D hD m (by simpa [Cl.ok] using hc)
    | own y =>
      simp only [T.isi, Option.some.injEq] at h
      subst h
      exact O.pair D hD y (by simpa [Cl.ok] using hc)
  | tok =>
    cases c0 <;> simp only [T.isi, T.ty, Option.map_none, reduceCtorEq] at h0
  | scr n =>
    cases c0 <;> simp only [T.isi, T.ty, Option.map_none, reduceCtorEq] at h0
end
end PB
end
section
set_option Elab.async false
set_option linter.all false
set_option maxRecDepth 100000
/-! PB14: isinstance as text, fields, subscripts, slices, looks into dicts. -/
namespace PB
open PySem PySem.Spec PyProof.Rows L2
section
variable {A : Cad} {K : PySem.W.Frag} {XE : XK} {C : Orc} {X : Cx} {pos p : Pos} {a b c d : Expr} {ia ib ic id : Ex}
theorem isis_any {K : PySem.W.Frag} {A : Cad} {t : T} {ty : Value} (h : ∀ c k, c.ok A.cl = true → t.isi c = some k → PySem.W.kitOne K ty (clU A c) = some k) : ∀ {cs : List Cl} {k : Bool}, (∀ c ∈ cs, c.ok A.cl = true) → t.isis cs = some k → PySem.W.kitAny K ty (cs.map (clU A)) = some k
  | [], k, _, q => by simp only [T.isis, Option.some.injEq] at q; subst q; rfl
  | c :: cs, k, hc, q => by
    simp only [T.isis] at q
    split at q
    · rename_i x y h1 h2
      cases q
      exact kitAny_cons (h c x (hc c (by simp)) h1) (fun z => by rw [z, Bool.false_or]; exact isis_any h (fun c' z' => hc c' (by simp [z'])) h2) (fun z => by rw [z]; rfl)
    · cases q
theorem clv_u (A : Cad) : ∀ c : Cl, ClsV (clV A c) (clU A c)
  | .ty n => .ty n
  | .own x => .own (A.ad x)
theorem clvs_u (A : Cad) : ∀ cs : List Cl, Paired ClsV (cs.map (clV A)) (cs.map (clU A))
  | [] => .nil
  | c :: cs => .cons (clv_u A c) (clvs_u A cs)
/-- the class's name: one; several -/
def PcAll (A : Cad) (X : Cx) : List Expr → List Cl → Prop
  | [], [] => True
  | e :: es, c :: cs => (noStar e = true ∧ PE X e (tC (clV A c))) ∧ PcAll A X es cs
  | _, _ => False
theorem a_cls : ∀ {es : List Expr} {cs : List Cl}, PcAll A X es cs → PA X es (fun _ H Q => Q (cs.map (clV A)) H)
  | [], [], _ => PA.mono pa_nil fun σ H Q h => h
  | e :: es, c :: cs, h => by
    simp only [PcAll] at h
    exact PA.mono (pa_cons h.1.2 (a_cls h.2) (star_ok h.1.1 es _)) fun σ H Q h => h
  | [], _ :: _, h => by simp only [PcAll] at h
  | _ :: _, [], h => by simp only [PcAll] at h
theorem isis1 {t : T} {c : Cl} {k : Bool} (h : t.isis [c] = some k) : t.isi c = some k := by
  simp only [T.isis] at h
  split at h
  · rename_i x y h1 h2
    cases h
    cases h2
    rw [Bool.or_false]
    exact h1
  · cases h
theorem b_isi1 {c : Cl} (hK : X.K = K) (O : ClsOk K A) (hb : Bn X "isinstance") (hs : noStar a = true) (hs2 : noStar b = true) (hok : c.ok A.cl = true) (ha : Pr A K XE C X a ia) (hc : PE X b (tC (clV A c))) :
    Pe A K XE C X (.Call (.Name "isinstance" p) [a, b] [] pos) (.isi ia [c]) := by
  have hst := star_ok hs [b] X.env
  have hst2 := star_ok hs2 [] X.env
  refine PE.mono (pe_callB call_isiY hb.gl hb.no (by decide +kernel) (pa_cons ha (pa_cons hc pa_nil hst2) hst) (by decide) (by decide) hst (plain_ok (es := [b]) (by simp [hs2]) pos X.env)) fun σ H Q hh => ?_
  obtain ⟨W, e, out, e', E, hm, hp⟩ := hh
  simp only [ev] at hm
  refine step E (.refl _ W H e.s σ) hm hp (fun z => by simpa [Ex.quiet] using z) fun x e1 W1 H1 v1 hm E1 S1 s1 r1 => ?_
  obtain ⟨r, h1, h2, h3⟩ := opt_some hm
  subst h2 h3
  simp only [Option.map_eq_some_iff] at h1
  obtain ⟨k, h4, h5⟩ := h1
  subst h5
  have h6 := isis1 h4
  obtain ⟨ty, h7, h8⟩ := ty_of O h6 E1 r1.rv
  rw [hK]
  exact ⟨v1, clV A c, ty, clU A c, k, rfl, clv_u A c, h7, h8 c k hok h6, hp W1 H1 E1 S1 _ (show Fz A W1 _ _ from ev_bool_fz)⟩
theorem b_isiT {cs : List Cl} {es : List Expr} {kk : Nat} {pt : Pos} (hK : X.K = K) (O : ClsOk K A) (hb : Bn X "isinstance") (hs : noStar a = true) (hne : cs ≠ []) (hl : cs.length ≤ 20) (hok : ∀ c ∈ cs, c.ok A.cl = true) (ha : Pr A K XE C X a ia) (hc : PcAll A X es cs) :
    Pe A K XE C X (.Call (.Name "isinstance" p) [a, .Tuple es kk pt] [] pos) (.isi ia cs) := by
  have hst := star_ok hs [.Tuple es kk pt] X.env
  refine PE.mono (pe_callB call_isiTY hb.gl hb.no (by decide +kernel) (pa_cons ha (pa_cons (pe_tup (a_cls hc)) pa_nil) hst) (by decide) (by decide) hst (plain_ok (es := [.Tuple es kk pt]) rfl pos X.env)) fun σ H Q hh => ?_
  obtain ⟨W, e, out, e', E, hm, hp⟩ := hh
  simp only [ev] at hm
  refine step E (.refl _ W H e.s σ) hm hp (fun z => by simpa [Ex.quiet] using z) fun x e1 W1 H1 v1 hm E1 S1 s1 r1 => ?_
  obtain ⟨r, h1, h2, h3⟩ := opt_some hm
  subst h2 h3
  simp only [Option.map_eq_some_iff] at h1
  obtain ⟨k, h4, h5⟩ := h1
  subst h5
  refine ⟨by rw [List.length_map, sizeLine_eq]; omega, fun q hq => ?_⟩
  have E2 := E1.ext (upd_ext (o := .tup (cs.map (clV A))) hq)
  have S2 := S1.ext (upd_ext (o := .tup (cs.map (clV A))) hq)
  have rx : Rv A W1 (upd H1 q (.tup (cs.map (clV A)))) x v1 := by
    rcases r1.rv with z | ⟨p', z1, z2, o, z3, z4⟩
    · exact .inl z
    · exact .inr ⟨p', z1, z2, o, upd_ext hq _ _ z3, z4⟩
  have h6 : ∃ c0 k0, x.isi c0 = some k0 := by
    cases cs with
    | nil => exact absurd rfl hne
    | cons c cs =>
      simp only [T.isis] at h4
      split at h4
      · rename_i z _ z1 _
        exact ⟨c, z, z1⟩
      · cases h4
  obtain ⟨c0, k0, h6⟩ := h6
  obtain ⟨ty, h7, h8⟩ := ty_of O h6 E2 rx
  rw [hK]
  exact ⟨v1, q, cs.map (clV A), ty, cs.map (clU A), k, rfl, upd_same, clvs_u A cs, h7, isis_any h8 hok h4, hp W1 _ E2 S2 _ (show Fz A W1 _ _ from ev_bool_fz)⟩
/-! fields -/
theorem base_ok {o : Expr} (h : okBase o = true) (f : Str) (env : Env) (t : Sem Value) : attributeBase o f env t = t := by
  unfold attributeBase
  split
  · rename_i id _ _
    cases h
  · rfl
theorem lookF_fz {W : Wd} {f : Str} : ∀ {fs : List (Str × T)} {ws : List (Str × V)} {t : T}, FzF A W fs ws → lookF fs f = some t → ∃ v, ws.lookup f = some v ∧ Fz A W t v
  | [], [], t, _, h => by simp [lookF] at h
  | (k, u) :: fs, (k', w) :: ws, t, h, hl => by
    simp only [FzF] at h
    obtain ⟨e1, h1, h2⟩ := h
    subst e1
    by_cases c : k = f
    · subst c
      have z : lookF ((k, u) :: fs) k = some u := by simp [lookF]
      rw [z] at hl
      cases hl
      exact ⟨w, by simp [List.lookup], h1⟩
    · have z : lookF ((k, u) :: fs) f = lookF fs f := by simp [lookF, List.find?_cons, c]
      rw [z] at hl
      obtain ⟨v, h3, h4⟩ := lookF_fz h2 hl
      refine ⟨v, ?_, h4⟩
      have c' : (f == k) = false := by simpa using fun z => c z.symm
      simp only [List.lookup, c']
      exact h3
  | [], _ :: _, _, h, _ => by simp only [FzF] at h
  | _ :: _, [], _, h, _ => by simp only [FzF] at h
theorem b_fld {f : Str} (hK : X.K = K) (O : ClsOk K A) (hna : ∀ x ∈ A.cl, NoAttr K (A.ad x) f) (hbase : okBase a = true) (ha : Pr A K XE C X a ia) : Pe A K XE C X (.Attribute a f pos) (.fld ia f) := by
  refine PE.mono (pe_fld ha (base_ok hbase _ _ _)) fun σ H Q hh => ?_
  obtain ⟨W, e, out, e', E, hm, hp⟩ := hh
  simp only [ev] at hm
  refine step E (.refl _ W H e.s σ) hm hp (fun z => by simpa [Ex.quiet] using z) fun x e1 W1 H1 v1 hm E1 S1 s1 r1 => ?_
  obtain ⟨r, h1, h2, h3⟩ := opt_some hm
  subst h2 h3
  simp only [Option.map_eq_some_iff] at h1
  obtain ⟨t, h4, h5⟩ := h1
  subst h5
  cases x <;> simp only [fldT, reduceCtorEq] at h4
  obtain ⟨q, dx, ws, z1, z2, z3, z4⟩ := rv_ins E1 r1.rv
  obtain ⟨v, z5, z6⟩ := lookF_fz z3 h4
  rw [hK]
  exact ⟨q, A.ad _, dx, ws, v, z1, z2, O.kc _ z4, hna _ z4, z5, hp W1 H1 E1 S1 v (show Fz A W1 t v from z6)⟩
/-! subscripts -/
theorem slice_ok (h : isSlice b = false) : ∀ o i, subscripted b false o i = operate [o, i] (getItem o i) := by
  cases b <;> first | (intro o i; rfl) | cases h
theorem atI_fz {W : Wd} {ts : List T} {vs : List V} {i : Int} {t : T} (f : FzL A W ts vs) (h : atI ts i = some t) : ∃ v, atI vs i = some v ∧ Fz A W t v := by
  unfold atI at h ⊢
  rw [← f.len]
  cases e : ixN ts.length i with
  | none => rw [e] at h; cases h
  | some n =>
    rw [e] at h
    exact f.get h
theorem b_ix (hu : X.A.units + 64 < cLine) (hK : X.K = K) (hs : isSlice b = false) (ha : Pr A K XE C X a ia) (hb : Pr A K XE C X b ib) : Pe A K XE C X (.Subscript a b pos) (.ix ia ib) := by
  refine ⟨fun pins s σ H Q I hh => ?_⟩
  obtain ⟨W, e, out, e', E, hm, hp⟩ := hh
  simp only [ev] at hm
  obtain ⟨hg, hm⟩ := gd_ok hm
  have hq : (Ex.ix ia ib).quiet = true → ia.quiet = true ∧ ib.quiet = true := fun z => q2 (by simpa [Ex.quiet] using z)
  by_cases hd : ∃ x e1, rdm ia (ev C ia) e = some (.ok x, e1) ∧ x.isD = true
  · obtain ⟨x0, e0, hx0, hx1⟩ := hd
    refine (pe_dget (by omega) ha hb (slice_ok hs)).run pins s σ H Q I ?_
    refine step' E (.refl _ W H e.s σ) hm hp (fun z => (hq z).1) fun x e1 W1 H1 v1 hx hm E1 S1 s1 r1 => ?_
    rw [hx0] at hx
    cases hx
    refine step E1 S1 hm hp (fun z => (hq z).2) fun y e2 W2 H2 v2 hm E2 S2 s2 r2 => ?_
    obtain ⟨r, h1, h2, h3⟩ := opt_some hm
    subst h2 h3
    simp only [Option.map_eq_some_iff] at h1
    obtain ⟨t, h4, h5⟩ := h1
    subst h5
    have hg2 : dgetT x0 y = some (some t) := by
      cases x0 <;> simp only [T.isD, Bool.false_eq_true] at hx1 <;> simpa [ixT, Option.join_eq_some_iff] using h4
    obtain ⟨q, ov, z1, z2, _, z3⟩ := dget_ok hg2 E2 (r1.keep A s2 E2.le hg).rv r2.rv
    rcases z3 with ⟨z4, _⟩ | ⟨t', v, z4, z5, z6⟩
    · cases z4
    · cases z4
      subst z5
      exact ⟨q, v, z1, z2, hp W2 H2 E2 S2 v (show Fz A W2 t v from z6)⟩
  · refine (pe_ix ix_seq ha hb (slice_ok hs)).run pins s σ H Q I ?_
    refine step' E (.refl _ W H e.s σ) hm hp (fun z => (hq z).1) fun x e1 W1 H1 v1 hx hm E1 S1 s1 r1 => ?_
    have nd : x.isD = false := by
      cases z : x.isD with
      | false => rfl
      | true => exact absurd ⟨x, e1, hx, z⟩ hd
    refine step E1 S1 hm hp (fun z => (hq z).2) fun y e2 W2 H2 v2 hm E2 S2 s2 r2 => ?_
    obtain ⟨r, h1, h2, h3⟩ := opt_some hm
    subst h2 h3
    simp only [Option.map_eq_some_iff] at h1
    obtain ⟨t, h4, h5⟩ := h1
    subst h5
    have rx := (r1.keep A s2 E2.le hg).rv
    rw [hK]
    cases x <;> simp only [ixT, reduceCtorEq, T.isD, Bool.true_eq_false] at h4 nd
    · cases y <;> simp only [reduceCtorEq] at h4
      split at h4
      · rename_i hl
        simp only [Option.map_eq_some_iff] at h4
        obtain ⟨n, h5, h6⟩ := h4
        subst h6
        exact .inr (.inr ⟨_, _, n, rv_str rx, rv_int r2.rv, hl, h5, hp W2 H2 E2 S2 _ (by show Fz A W2 _ _; simp only [Fz])⟩)
      · cases h4
    · cases y <;> simp only [reduceCtorEq] at h4
      obtain ⟨q, vs, z1, z2, z3⟩ := rv_lst E2 rx
      obtain ⟨v, z4, z5⟩ := atI_fz z3 h4
      exact .inl ⟨q, vs, _, v, z1, rv_int r2.rv, .inl (.inl z2), z4, hp W2 H2 E2 S2 v (show Fz A W2 t v from z5)⟩
    · cases y <;> simp only [reduceCtorEq] at h4
      obtain ⟨q, vs, z1, z2, z3, _⟩ := rv_tup E2 rx
      obtain ⟨v, z4, z5⟩ := atI_fz z3 h4
      exact .inr (.inl ⟨q, vs, _, v, z1, rv_int r2.rv, .inl (.inl z2), z4, hp W2 H2 E2 S2 v (show Fz A W2 t v from z5)⟩)
theorem b_rev {k : Nat} {p1 p2 p3 : Pos} (ha : Pr A K XE C X a ia) (hK : X.K = K) : Pe A K XE C X (.Subscript a (.Slice none none (some (.UnaryOp .USub (.Constant (.int 1) k p1) p2)) p3) pos) (.rev ia) := by
  refine PE.mono (pe_revL ha) fun σ H Q hh => ?_
  obtain ⟨W, e, out, e', E, hm, hp⟩ := hh
  simp only [ev] at hm
  refine step E (.refl _ W H e.s σ) hm hp (fun z => by simpa [Ex.quiet] using z) fun x e1 W1 H1 v1 hm E1 S1 s1 r1 => ?_
  obtain ⟨r, h1, h2, h3⟩ := opt_some hm
  subst h2 h3
  cases x <;> simp only [Option.some.injEq, reduceCtorEq] at h1
  subst h1
  obtain ⟨q, vs, z1, z2, z3⟩ := rv_lst E1 r1.rv
  exact ⟨q, vs, z1, .inl (.inl z2), Kon.lst (fun W' H' v E' S' R' => hp W' H' E' S' v R') E1 S1 z3.rev⟩
end
end PB
end
section
set_option Elab.async false
set_option linter.all false
set_option maxRecDepth 100000
/-! PB15: slices, ranges as lists, looks into dicts, a list's own methods. -/
namespace PB
open PySem PySem.Spec PyProof.Rows L2
section
variable {A : Cad} {K : PySem.W.Frag} {XE : XK} {C : Orc} {X : Cx} {pos p : Pos} {a b c d : Expr} {ia ib ic id : Ex}
def rO : Rel (Option Int) (Option Int) := fun _ _ _ _ _ _ k k' => k' = k
abbrev Po (A : Cad) (K : PySem.W.Frag) (XE : XK) (C : Orc) (X : Cx) (e : Option Expr) (ir : Option Ex) : Prop := PO X e (tM A K XE (exQ ir) rO (evO C ir))
theorem PO.mono {X : Cx} {e : Option Expr} {t t' : TO} (h : PO X e t) (f : ∀ σ H Q, t' σ H Q → t σ H Q) : PO X e t' :=
  ⟨fun pins s σ H Q I q => h.run pins s σ H Q I (f σ H Q q)⟩
theorem o_none : Po A K XE C X none none := PO.mono po_none fun σ H Q hh => by
  obtain ⟨W, e, out, e', E, hm, hp⟩ := hh
  simp only [evO] at hm
  cases hm
  exact hp W H E (.refl _ W H _ σ) none rfl
theorem o_some (ha : Pr A K XE C X a ia) : Po A K XE C X (some a) (some ia) := PO.mono (po_some ha) fun σ H Q hh => by
  obtain ⟨W, e, out, e', E, hm, hp⟩ := hh
  simp only [evO] at hm
  refine step E (.refl _ W H e.s σ) hm hp (fun z => by simpa [exQ] using z) fun x e1 W1 H1 v1 hm E1 S1 s1 r1 => ?_
  obtain ⟨i, h4, hm⟩ := bnd_opt hm
  cases hm
  cases x <;> simp only [toInt, Option.some.injEq, reduceCtorEq] at h4
  subst h4
  exact ⟨_, rv_int r1.rv, hp W1 H1 E1 S1 _ rfl⟩
theorem sl_quiet (a : Ex) (lo hi : Option Ex) : (Ex.sl a lo hi).quiet = (a.quiet && exQ lo && exQ hi) := by
  cases lo <;> cases hi <;> simp [Ex.quiet, exQ, Bool.and_assoc]
def rSlA3 (K : PySem.W.Frag) : V → Option Int → Option Int → Hp → VK → Prop := fun x lo hi H Q => rSlL K x lo hi H Q ∨ (rSlA K x lo hi H Q ∨ rSlS x lo hi H Q)
theorem cutL_fz {W : Wd} {ts : List T} {vs : List V} (f : FzL A W ts vs) (lo hi : Option Int) : FzL A W (cutL ts lo hi) (cutV vs lo hi) := by
  unfold cutL cutV
  rw [f.len]
  exact (f.drop).take
theorem b_sl {lo hi : Option Expr} {il ih : Option Ex} {p2 : Pos} (hK : X.K = K) (ha : Pr A K XE C X a ia) (hl : Po A K XE C X lo il) (hh' : Po A K XE C X hi ih) : Pe A K XE C X (.Subscript a (.Slice lo hi none p2) pos) (.sl ia il ih) := by
  refine PE.mono (pe_slice (SlR.or sl_list (SlR.or sl_tupA sl_str)) ha hl hh') fun σ H Q hh => ?_
  obtain ⟨W, e, out, e', E, hm, hp⟩ := hh
  simp only [ev] at hm
  obtain ⟨hg, hm⟩ := gd_ok hm
  have hq : (Ex.sl ia il ih).quiet = true → ia.quiet = true ∧ exQ il = true ∧ exQ ih = true := fun z => by
    rw [sl_quiet] at z
    simp only [Bool.and_eq_true] at z
    exact ⟨z.1.1, z.1.2, z.2⟩
  refine step E (.refl _ W H e.s σ) hm hp (fun z => (hq z).1) fun x e1 W1 H1 v1 hm E1 S1 s1 r1 => ?_
  refine step E1 S1 hm hp (fun z => (hq z).2.1) fun l e2 W2 H2 l' hm E2 S2 s2 r2 => ?_
  refine step E2 S2 hm hp (fun z => (hq z).2.2) fun h e3 W3 H3 h' hm E3 S3 s3 r3 => ?_
  have r2 : l' = l := r2
  have r3 : h' = h := r3
  subst r2 r3
  obtain ⟨r, h1, h2, h3⟩ := opt_some hm
  subst h2 h3
  have hg1 : ia.varOf.isSome = true → exQ il = true := fun z => (q2 (hg z)).1
  have hg2 : ia.varOf.isSome = true → exQ ih = true := fun z => (q2 (hg z)).2
  have rx := ((r1.keep A s2 E2.le hg1).keep A s3 E3.le hg2).rv
  rw [hK]
  cases x <;> simp only [slT, Option.some.injEq, reduceCtorEq] at h1
  · split at h1
    · rename_i hs
      cases h1
      exact .inr (.inr ⟨_, rv_str rx, hs, hp W3 H3 E3 S3 _ (by show Fz A W3 _ _; simp only [Fz])⟩)
    · cases h1
  · subst h1
    obtain ⟨q, vs, z1, z2, z3⟩ := rv_lst E3 rx
    exact .inl ⟨q, vs, z1, .inl (.inl z2), Kon.lst (fun W' H' v E' S' R' => hp W' H' E' S' v R') E3 S3 (cutL_fz z3 _ _)⟩
  · subst h1
    obtain ⟨q, vs, z1, z2, z3, z4⟩ := rv_tup E3 rx
    refine .inr (.inl ⟨q, vs, z1, .inl (.inl z2), fun hw => ?_, fun hw => Kon.tup (fun W' H' v E' S' R' => hp W' H' E' S' v R') E3 S3 (cutL_fz z3 _ _)⟩)
    refine hp W3 H3 E3 S3 _ (show Fz A W3 (.tup _) _ from ?_)
    have e1 : ∀ {ts : List T}, FzL A W3 ts vs → cutL ts l' h' = ts := fun {ts} f => by
      unfold cutL
      rw [f.len, hw.1, hw.2, List.drop_zero, Nat.sub_zero, ← f.len, List.take_length]
    rw [e1 z3]
    simp only [Fz]
    exact ⟨q, vs, rfl, z4, z3⟩
theorem rngL_fz {W : Wd} {a b : Int} : FzL A W (rngL a b) (rgV a b) := by
  have go : ∀ (l : List Nat) (W : Wd), FzL A W (l.map fun (k : Nat) => T.int (a + (k : Int))) (l.map fun (k : Nat) => V.int (a + (k : Int))) := by
    intro l W
    induction l with
    | nil => simp only [List.map_nil, FzL]
    | cons x l ih => simp only [List.map_cons, FzL, Fz, true_and]; exact ih
  exact go _ W
theorem b_lrng {p1 p2 : Pos} (hc : X.calm = true) (hb1 : Bn X "list") (hb2 : Bn X "range") (hs : noStar a = true) (ha : Pr A K XE C X a ia) : Pe A K XE C X (.Call (.Name "list" p1) [.Call (.Name "range" p2) [a] [] p] [] pos) (.lrng ia) := by
  refine PE.mono (pe_listRg hc hb1.gl hb1.no (prg_1 hb2.gl hb2.no ha (star_ok hs [] _))) fun σ H Q hh => ?_
  obtain ⟨W, e, out, e', E, hm, hp⟩ := hh
  simp only [ev] at hm
  refine step E (.refl _ W H e.s σ) hm hp (fun z => by simpa [Ex.quiet] using z) fun x e1 W1 H1 v1 hm E1 S1 s1 r1 => ?_
  obtain ⟨r, h1, h2, h3⟩ := opt_some hm
  subst h2 h3
  cases x <;> simp only [toInt, Option.bind_eq_some_iff, Option.some.injEq, reduceCtorEq, false_and, exists_false] at h1
  obtain ⟨n, h4, h5⟩ := h1
  subst h4
  split at h5
  · rename_i hc
    cases h5
    simp only [okR_iff, Bool.and_eq_true, decide_eq_true_eq] at hc
    refine ⟨_, rv_int r1.rv, ⟨by decide, by decide, hc.1.1, hc.1.2, by have hz := sizeLine_eq; omega⟩, ?_⟩
    exact Kon.lst (fun W' H' v E' S' R' => hp W' H' E' S' v R') E1 S1 rngL_fz
  · cases h5
theorem b_lrng2 {p1 p2 : Pos} (hc : X.calm = true) (hb1 : Bn X "list") (hb2 : Bn X "range") (hs : noStar a = true) (hs2 : noStar b = true) (ha : Pr A K XE C X a ia) (hbb : Pr A K XE C X b ib) :
    Pe A K XE C X (.Call (.Name "list" p1) [.Call (.Name "range" p2) [a, b] [] p] [] pos) (.lrng2 ia ib) := by
  refine PE.mono (pe_listRg hc hb1.gl hb1.no (prg_2 hb2.gl hb2.no ha hbb (star_ok hs [b] _) (star_ok hs2 [] _) (plain_ok (es := [b]) (by simp [hs2]) _ _))) fun σ H Q hh => ?_
  obtain ⟨W, e, out, e', E, hm, hp⟩ := hh
  simp only [ev] at hm
  have hq : (Ex.lrng2 ia ib).quiet = true → ia.quiet = true ∧ ib.quiet = true := fun z => q2 (by simpa [Ex.quiet] using z)
  refine step E (.refl _ W H e.s σ) hm hp (fun z => (hq z).1) fun x e1 W1 H1 v1 hm E1 S1 s1 r1 => ?_
  refine step E1 S1 hm hp (fun z => (hq z).2) fun y e2 W2 H2 v2 hm E2 S2 s2 r2 => ?_
  obtain ⟨r, h1, h2, h3⟩ := opt_some hm
  subst h2 h3
  cases x <;> simp only [toInt, Option.bind_eq_some_iff, Option.some.injEq, reduceCtorEq, false_and, exists_false] at h1
  obtain ⟨n, h4, h5⟩ := h1
  subst h4
  cases y <;> simp only [Option.bind_eq_some_iff, Option.some.injEq, reduceCtorEq, false_and, exists_false] at h5
  obtain ⟨m, h4, h5⟩ := h5
  subst h4
  split at h5
  · rename_i hc
    cases h5
    simp only [okR_iff, Bool.and_eq_true, decide_eq_true_eq] at hc
    exact ⟨_, _, rv_int r1.rv, rv_int r2.rv, ⟨hc.1.1.1, hc.1.1.2, hc.1.2.1, hc.1.2.2, by have hz := sizeLine_eq; omega⟩, Kon.lst (fun W' H' v E' S' R' => hp W' H' E' S' v R') E2 S2 rngL_fz⟩
  · cases h5
/-! looks into dicts -/
theorem all_ok : ∀ {es : List Expr}, es.all noStar = true → ∀ (pos : Pos) (env : Env), (backTo pos (starEach es env)).all (fun x => !x.1) = true
  | [], _, _, _ => rfl
  | e :: es, h, pos, env => by
    simp only [List.all_cons, Bool.and_eq_true] at h
    rw [star_ok h.1]
    show ((false, _) :: backTo pos (starEach es env)).all (fun x => !x.1) = true
    rw [List.all_cons, all_ok h.2 pos env]
    rfl
theorem few_ok {es : List Expr} (h : es.all noStar = true) (hl : es.length < 29) (pos : Pos) (env : Env) : ((backTo pos (starEach es env)).all (fun x => !x.1) && (backToKw pos (keywordEach [] env)).all (fun x => x.1.isSome)
    && decide (es.length + ([] : List Keyword).length + (if ([] : List Keyword).isEmpty then 0 else 1) < 30)) = true := by
  rw [all_ok h, Bool.true_and]
  have z : (backToKw pos (keywordEach [] env)).all (fun x => x.1.isSome) = true := rfl
  rw [z, Bool.true_and]
  simp
  omega
theorem isD_of {W : Wd} {H : Hp} {σ : L2.St} {e : Ev} {t : T} {v : V} (h : t.isD = true) (E : EnvOk A K W H σ e) (r : Rv A W H t v) : ∃ a, v = .ref a ∧ IsD H a := by
  cases t <;> simp only [T.isD, Bool.false_eq_true] at h
  · obtain ⟨a, vs, e1, h1, _⟩ := rv_dK E r
    exact ⟨a, e1, .inl ⟨vs, h1⟩⟩
  · obtain ⟨a, vs, e1, h1, _⟩ := rv_dT E r
    exact ⟨a, e1, .inr ⟨vs, h1⟩⟩
theorem b_get1 {m : Str} {ap cp : Pos} (hm0 : m = Str.ofString "get") (hu : X.A.units + 64 < cLine) (hbase : okBase a = true) (hln : (ap.endLine == cp.line) = true) (hs : noStar b = true) (ha : Pr A K XE C X a ia) (hb : Pr A K XE C X b ib) :
    Pe A K XE C X (.Call (.Attribute a m ap) [b] [] cp) (.get1 ia ib) := by
  subst hm0
  have M : M1 X a "get" ap b cp := ⟨base_ok hbase _ _ _, few_ok (es := [b]) (by simp [hs]) (by simp) _ _, hln, by rw [star_ok hs]; rfl⟩
  refine PE.mono (pe_dget1 (by omega) ha hb M) fun σ H Q hh => ?_
  obtain ⟨W, e, out, e', E, hm, hp⟩ := hh
  simp only [ev] at hm
  obtain ⟨hg, hm⟩ := gd_ok hm
  have hq : (Ex.get1 ia ib).quiet = true → ia.quiet = true ∧ ib.quiet = true := fun z => q2 (by simpa [Ex.quiet] using z)
  refine step E (.refl _ W H e.s σ) hm hp (fun z => (hq z).1) fun x e1 W1 H1 v1 hm E1 S1 s1 r1 => ?_
  obtain ⟨hx, hm⟩ := bnd_chk hm
  obtain ⟨q, eq1, hd⟩ := isD_of hx E1 r1.rv
  refine ⟨q, eq1, hd, ?_⟩
  refine step E1 S1 hm hp (fun z => (hq z).2) fun y e2 W2 H2 v2 hm E2 S2 s2 r2 => ?_
  obtain ⟨r, h1, h2, h3⟩ := opt_some hm
  subst h2 h3
  simp only [Option.map_eq_some_iff] at h1
  obtain ⟨o, h4, h5⟩ := h1
  subst h5
  obtain ⟨q', ov, z1, z2, _, z3⟩ := dget_ok h4 E2 (r1.keep A s2 E2.le hg).rv r2.rv
  rw [eq1] at z1
  cases z1
  refine ⟨ov, z2, ?_⟩
  rcases z3 with ⟨z4, z5⟩ | ⟨t', v, z4, z5, z6⟩
  · subst z4 z5
    exact hp W2 H2 E2 S2 _ (by show Fz A W2 .non .non; simp only [Fz])
  · subst z4 z5
    exact hp W2 H2 E2 S2 v (show Fz A W2 t' v from z6)
theorem b_get2 {m : Str} {ap cp : Pos} (hm0 : m = Str.ofString "get") (hu : X.A.units + 64 < cLine) (hbase : okBase a = true) (hln : (ap.endLine == cp.line) = true) (hs : noStar b = true) (hs2 : noStar c = true) (ha : Pr A K XE C X a ia) (hb : Pr A K XE C X b ib) (hc : Pe A K XE C X c ic) :
    Pe A K XE C X (.Call (.Attribute a m ap) [b, c] [] cp) (.get2 ia ib ic) := by
  subst hm0
  have M : M2 X a "get" ap b c cp := ⟨base_ok hbase _ _ _, few_ok (es := [b, c]) (by simp [hs, hs2]) (by simp) _ _, hln, by rw [star_ok hs, star_ok hs2]; rfl⟩
  refine PE.mono (pe_dget2 (by omega) ha hb hc M) fun σ H Q hh => ?_
  obtain ⟨W, e, out, e', E, hm, hp⟩ := hh
  simp only [ev] at hm
  obtain ⟨hg, hm⟩ := gd_ok hm
  obtain ⟨hg', hm⟩ := gd_ok hm
  have hq : (Ex.get2 ia ib ic).quiet = true → ia.quiet = true ∧ ib.quiet = true ∧ ic.quiet = true := fun z => by
    simp only [Ex.quiet, Bool.and_eq_true] at z
    exact ⟨z.1.1, z.1.2, z.2⟩
  refine step E (.refl _ W H e.s σ) hm hp (fun z => (hq z).1) fun x e1 W1 H1 v1 hm E1 S1 s1 r1 => ?_
  obtain ⟨hx, hm⟩ := bnd_chk hm
  obtain ⟨q, eq1, hd⟩ := isD_of hx E1 r1.rv
  refine ⟨q, eq1, hd, ?_⟩
  refine step E1 S1 hm hp (fun z => (hq z).2.1) fun y e2 W2 H2 v2 hm E2 S2 s2 r2 => ?_
  refine step E2 S2 hm hp (fun z => (hq z).2.2) fun z e3 W3 H3 v3 hm E3 S3 s3 r3 => ?_
  obtain ⟨r, h1, h2, h3⟩ := opt_some hm
  subst h2 h3
  simp only [Option.map_eq_some_iff] at h1
  obtain ⟨o, h4, h5⟩ := h1
  subst h5
  obtain ⟨W4, E4, S4, f4, l4⟩ := res_fz E3 S3 (fun i a w => E.owt i a w) (fun p z => S2.dom p z) r3
  have rx := ((r1.keep A s2 E2.le fun z => (q2 (hg z)).1).keep A s3 E3.le fun z => (q2 (hg z)).2).rv
  have ry := (r2.keep A s3 E3.le hg').rv
  obtain ⟨q', ov, z1, z2, _, z3⟩ := dget_ok h4 E3 rx ry
  rw [eq1] at z1
  cases z1
  refine ⟨ov, z2, ?_⟩
  rcases z3 with ⟨z4, z5⟩ | ⟨t', v, z4, z5, z6⟩
  · subst z4 z5
    exact hp W4 H3 E4 S4 _ (show Fz A W4 z.2 v3 from f4)
  · subst z4 z5
    exact hp W4 H3 E4 S4 v (show Fz A W4 t' v from z6.mono A l4)
/-! a list's own methods -/
/-- the object at p is written: its slot's tree is another -/
theorem write_ok {W W0 : Wd} {H H0 : Hp} {σ : L2.St} {e : Ev} {s0 : List (Option R)} {i : Nat} {t t' : T} {p : Addr} {o' : HO} (E : EnvOk A K W H σ e) (S : Stp false W0 H0 s0 σ W H e.s)
    (h : e.s[i]? = some (some (true, t))) (hv : σ[i]? = some (some (.ref p))) (r : OwnO A W o' t') : EnvOk A K W (upd H p o') σ { e with s := e.s.set i (some (true, t')) } ∧ Stp false W0 H0 s0 σ W (upd H p o') (e.s.set i (some (true, t'))) := by
  have w : Ow e.s σ i p := ⟨⟨t, h⟩, hv⟩
  obtain ⟨t0, h0, ow⟩ := Ow.there E w
  have hi : i < e.s.length := by
    rcases Nat.lt_or_ge i e.s.length with z | z
    · exact z
    · rw [List.getElem?_eq_none z] at h; cases h
  have nG : W.G p = none := ow.1
  have nd := E.nd i p w
  have ows : ∀ j q, Ow (e.s.set i (some (true, t'))) σ j q → Ow e.s σ j q := fun j q ⟨⟨u, h1⟩, h2⟩ => by
    by_cases c : i = j
    · subst c; exact ⟨⟨t, h⟩, h2⟩
    · rw [List.getElem?_set_ne c] at h1
      exact ⟨⟨u, h1⟩, h2⟩
  refine ⟨⟨fun a o g => ?_, ?_, ?_, by rw [List.length_set]; exact E.len, fun j r' hj => ?_, fun j k q h1 h2 => E.dj j k q (ows j q h1) (ows k q h2), fun j q h1 => E.nd j q (ows j q h1)⟩,
    ⟨S.wle, fun a o ha n d => ?_, fun a ha => ?_, S.new, fun j q h1 => S.own j q (ows j q h1), S.drn⟩⟩
  · have ne : a ≠ p := fun z => by subst z; rw [nG] at g; cases g
    rw [upd_ne ne]
    exact E.le a o g
  · have z := E.dr
    unfold DrOk at z ⊢
    cases e1 : e.d with
    | none =>
      rw [e1] at z
      cases e2 : W.dr with
      | none => trivial
      | some d => rw [e2] at z; exact z
    | some D =>
      rw [e1] at z
      cases e2 : W.dr with
      | none => rw [e2] at z; exact z
      | some d =>
        rw [e2] at z
        obtain ⟨x, y⟩ := d
        obtain ⟨z1, z2, z3, z4, z5⟩ := z
        have q := nd _ (.inl e2)
        exact ⟨z1, z2, z3, by rw [upd_ne (Ne.symm q.1)]; exact z4, by rw [upd_ne (Ne.symm q.2)]; exact z5⟩
  · obtain ⟨z1, z2⟩ := E.sc
    refine ⟨⟨z1.1, tabs_upd z1.2 fun o h => by
      obtain ⟨o2, h2, h3⟩ := ow.2
      rw [h] at h2
      cases h2
      exact OwnO.tx h3⟩, z2.imp (fun ⟨o, ho⟩ => ⟨o, ?_⟩) id⟩
    have ne : W.sc ≠ p := fun z => by
      obtain ⟨o2, h2, h3⟩ := ow.2
      rw [← z, ho] at h2
      cases h2
      exact OwnO.nofrz A h3
    rw [upd_ne ne]
    exact ho
  · by_cases c : i = j
    · subst c
      rw [List.getElem?_set_self hi] at hj
      cases hj
      exact ⟨.ref p, hv, (show ∃ q, V.ref p = .ref q ∧ Own A W (upd H p o') t' q from ⟨p, rfl, nG, o', upd_same, r⟩)⟩
    · rw [List.getElem?_set_ne c] at hj
      obtain ⟨v, h1, h2⟩ := E.sl j r' hj
      refine ⟨v, h1, ?_⟩
      obtain ⟨o, u⟩ := r'
      cases o with
      | false => exact h2
      | true =>
        obtain ⟨q, e1, g, o, ho, hr⟩ := (show ∃ q, v = .ref q ∧ Own A W H u q from h2)
        have ne : q ≠ p := fun z => by
          subst z
          subst e1
          exact c (E.dj i j q w ⟨⟨u, hj⟩, h1⟩)
        exact (show ∃ q, v = .ref q ∧ Own A W (upd H p o') u q from ⟨q, e1, g, o, by rw [upd_ne ne]; exact ho, hr⟩)
  · have ne : a ≠ p := fun z => by
      subst z
      rcases n with n | n
      · cases n
      · exact n i (S.own i a w)
    rw [upd_ne ne]
    exact S.keep a o ha n d
  · have ne : a ≠ p := fun z => by subst z; rw [upd_same] at ha; cases ha
    rw [upd_ne ne] at ha
    exact S.dom a ha
/-- the method by its number -/
def rMu : Mu → V → List V → Hp → VK → Prop
  | .append => rAppend
  | .extend => rExtend
  | .pop => rPop
  | .popAt => rPopAt
  | .insert => fun x vs H Q => ∃ (l : Addr) (xs : List V) (i : Int) (y : V), x = .ref l ∧ vs = [.int i, y] ∧ H l = some (.lst xs) ∧ xs.length < sizeLine ∧ 0 ≤ i ∧ i < 2 ^ 63 ∧ Q .non (upd H l (.lst (xs.take i.toNat ++ [y] ++ xs.drop i.toNat)))
theorem mu_ok {W W0 : Wd} {H H0 : Hp} {σ : L2.St} {e : Ev} {s0 : List (Option R)} {Q : VK} {m : Mu} {i : Nat} {t t' y : T} {p : Addr} {ts : List T} {vs : List V} (h : mutT m t ts = some (t', y)) (E : EnvOk A K W H σ e) (S : Stp false W0 H0 s0 σ W H e.s)
    (hi : e.s[i]? = some (some (true, t))) (hv : σ[i]? = some (some (.ref p))) (f : FzL A W ts vs)
    (k : ∀ W' H' v, EnvOk A K W' H' σ { e with s := e.s.set i (some (true, t')) } → Stp false W0 H0 s0 σ W' H' (e.s.set i (some (true, t'))) → Fz A W' y v → Q v H') : rMu m (.ref p) vs H Q := by
  obtain ⟨t0, h0, nG, o, ho, ow⟩ := Ow.there E ⟨⟨t, hi⟩, hv⟩
  rw [hi] at h0
  cases h0
  have hz : sizeLine = 16777216 := sizeLine_eq
  unfold mutT at h
  split at h
  · split at h
    · rename_i hs
      cases h
      obtain ⟨ws, e1, fw⟩ := ow
      subst e1
      cases vs with
      | nil => simp only [FzL] at f
      | cons v vs =>
        simp only [FzL] at f
        cases vs with
        | cons _ _ => simp only [FzL, and_false] at f
        | nil =>
          obtain ⟨E1, S1⟩ := write_ok (o' := .lst (ws ++ [v])) (t' := .lst _) E S hi hv ⟨ws ++ [v], rfl, fw.app (.one f.1)⟩
          exact ⟨p, ws, v, rfl, rfl, ho, by rw [← fw.len]; exact hs, k _ _ _ E1 S1 (by simp only [Fz])⟩
    · cases h
  · split at h
    · rename_i hs
      cases h
      obtain ⟨ws, e1, fw⟩ := ow
      subst e1
      cases vs with
      | nil => simp only [FzL] at f
      | cons v vs =>
        simp only [FzL] at f
        cases vs with
        | cons _ _ => simp only [FzL, and_false] at f
        | nil =>
          obtain ⟨b, zs, e2, hb, fz⟩ := rv_lst E (.inl f.1)
          subst e2
          obtain ⟨E1, S1⟩ := write_ok (o' := .lst (ws ++ zs)) (t' := .lst _) E S hi hv ⟨ws ++ zs, rfl, fw.app fz⟩
          exact ⟨p, b, ws, zs, rfl, rfl, ho, hb, by rw [← fw.len, ← fz.len]; exact hs, k _ _ _ E1 S1 (by simp only [Fz])⟩
    · cases h
  · simp only [Option.map_eq_some_iff] at h
    obtain ⟨u, h1, h2⟩ := h
    cases h2
    obtain ⟨ws, e1, fw⟩ := ow
    subst e1
    cases vs with
    | cons _ _ => simp only [FzL] at f
    | nil =>
      obtain ⟨v, h3, h4⟩ := fw.get h1
      have z : ∀ {ts : List T} {ws : List V}, FzL A W ts ws → FzL A W ts.dropLast ws.dropLast := fun {ts ws} g => by
        rw [List.dropLast_eq_take, List.dropLast_eq_take, g.len]
        exact g.take
      obtain ⟨E1, S1⟩ := write_ok (o' := .lst ws.dropLast) (t' := .lst _) E S hi hv ⟨_, rfl, z fw⟩
      exact ⟨p, ws, v, rfl, rfl, ho, by rw [← fw.len]; exact h3, k _ _ _ E1 S1 h4⟩
  · split at h
    case isFalse => cases h
    rename_i hs
    simp only [Bool.and_eq_true, decide_eq_true_eq] at hs
    simp only [Option.bind_eq_some_iff, Option.map_eq_some_iff] at h
    obtain ⟨n, h1, u, h2, h3⟩ := h
    cases h3
    obtain ⟨ws, e1, fw⟩ := ow
    subst e1
    cases vs with
    | nil => simp only [FzL] at f
    | cons v vs =>
      simp only [FzL] at f
      cases vs with
      | cons _ _ => simp only [FzL, and_false] at f
      | nil =>
        obtain ⟨v', h3, h4⟩ := fw.get h2
        obtain ⟨g1, g2, g3, g4⟩ := ixN_seq h1
        obtain ⟨E1, S1⟩ := write_ok (o' := .lst (ws.eraseIdx n)) (t' := .lst _) E S hi hv ⟨_, rfl, fw.erase⟩
        exact ⟨p, ws, _, n, v', rfl, by rw [rv_int (H := H) (.inl f.1)], ho, hs.1, hs.2, by rw [← fw.len]; exact g1, h3, k _ _ _ E1 S1 h4⟩
  · split at h
    · rename_i hs
      cases h
      simp only [Bool.and_eq_true, decide_eq_true_eq] at hs
      obtain ⟨ws, e1, fw⟩ := ow
      subst e1
      cases vs with
      | nil => simp only [FzL] at f
      | cons v vs =>
        simp only [FzL] at f
        cases vs with
        | nil => simp only [FzL, and_false] at f
        | cons v2 vs =>
          simp only [FzL] at f
          cases vs with
          | cons _ _ => simp only [FzL, and_false] at f
          | nil =>
            obtain ⟨E1, S1⟩ := write_ok (o' := .lst (ws.take _ ++ [v2] ++ ws.drop _)) (t' := .lst _) E S hi hv ⟨_, rfl, (fw.take.app (.one f.2.1)).app fw.drop⟩
            exact ⟨p, ws, _, v2, rfl, by rw [rv_int (H := H) (.inl f.1)], ho, by rw [← fw.len]; exact hs.1.1, hs.1.2, hs.2, k _ _ _ E1 S1 (by simp only [Fz])⟩
    · cases h
  · cases h
theorem isLst_some {i : Nat} {α : Type} {k : Unit → M α} {e e' : Ev} {out : Out α} (h : bnd (isLst i) k e = some (out, e')) : ∃ ts, e.s[i]? = some (some (true, .lst ts)) ∧ k () e = some (out, e') := by
  rcases bnd_some h with ⟨u, e1, h1, h2⟩ | ⟨Cx, fs, h1, h2⟩
  · unfold isLst at h1
    split at h1
    · rename_i ts hs
      cases h1
      exact ⟨ts, hs, h2⟩
    · cases h1
  · unfold isLst at h1
    split at h1 <;> cases h1
theorem b_mut {x m : Str} {i : Nat} {u : Mu} {es : List Expr} {is : List Ex} {px ap cp : Pos} (hm0 : muOf m is.length = some u) (hK : X.K = K) (hN : X.N[i]? = some x) (hv : Vis X.env.scope x) (hd : (x == ("__debug__" : Str)) = false) (hcd : (x == ("__classdict__" : Str)) = false)
    (hln : (ap.endLine == cp.line) = true) (hl : es.length < 29) (ha : PeL A K XE C X es is) : Pe A K XE C X (.Call (.Attribute (.Name x px) m ap) es [] cp) (.mut i u is) := by
  have hlen : es.length = is.length := by
    have : ∀ {es : List Expr} {is : List Ex}, PeL A K XE C X es is → es.length = is.length := by
      intro es
      induction es with
      | nil => intro is h; cases is with
        | nil => rfl
        | cons _ _ => simp only [PeL] at h
      | cons e es ih => intro is h; cases is with
        | nil => simp only [PeL] at h
        | cons i is => simp only [PeL] at h; simp only [List.length_cons, ih h.2]
    exact this ha
  have hst := ha.star
  have pv : PE X (.Name x px) (tVar i) := pe_var hN hv hd hcd
  have main : PE X (.Call (.Attribute (.Name x px) m ap) es [] cp) (tBM X.K "list" (rMu u) (tVar i) (tL A K XE (Ex.quiets is) (evs C is))) := by
    have go : ∀ {id : String}, PySem.Slot "list" m id → typeOf (.builtin id) = pure (.type "method_descriptor") → MtR X id (rMu u) → es ≠ [] → PE X (.Call (.Attribute (.Name x px) m ap) es [] cp) (tBM X.K "list" (rMu u) (tVar i) (tL A K XE (Ex.quiets is) (evs C is))) := by
      intro id sl ty mt ne
      cases es with
      | nil => exact absurd rfl ne
      | cons e es =>
        have hs1 : noStar e = true := by
          simp only [List.all_cons, Bool.and_eq_true] at hst
          exact hst.1
        have hs2 : es.all noStar = true := by
          simp only [List.all_cons, Bool.and_eq_true] at hst
          exact hst.2
        exact pe_bm PySem.F.plainAttrs_list sl ty mt pv (a_evs ha) (base_ok rfl _ _ _) (few_ok hst hl _ _) hln (star_ok hs1 es _) (plain_ok hs2 _ _)
    unfold muOf at hm0
    split at hm0
    · rename_i e; subst e
      split at hm0
      · cases hm0
        exact go PySem.F.slot_list_append PySem.F.type_list_append mt_append (by intro z; rw [z] at hlen; simp at hlen; omega)
      · cases hm0
    split at hm0
    · rename_i e; subst e
      split at hm0
      · cases hm0
        exact go PySem.F.slot_list_extend PySem.F.type_list_extend mt_extend (by intro z; rw [z] at hlen; simp at hlen; omega)
      · cases hm0
    split at hm0
    · rename_i e; subst e
      split at hm0
      · rename_i h0
        cases hm0
        have z1 : is = [] := List.length_eq_zero_iff.mp h0
        have z2 : es = [] := List.length_eq_zero_iff.mp (hlen.trans h0)
        subst z1 z2
        refine PE.mono (pe_bm0 PySem.F.plainAttrs_list PySem.F.slot_list_pop PySem.F.type_list_pop mt_pop pv (base_ok rfl _ _ _) hln) fun σ H Q hh => ?_
        obtain ⟨v, hv, ht, W, e, out, e', E, hm, hp⟩ := hh
        simp only [evs] at hm
        cases hm
        exact ⟨v, hv, ht, hp W H E (.refl _ W H _ σ) [] (by show FzL A W [] []; simp only [FzL])⟩
      · split at hm0
        · rename_i h1
          cases hm0
          exact go PySem.F.slot_list_pop PySem.F.type_list_pop mt_popAt (by intro z; rw [z] at hlen; simp at hlen; omega)
        · cases hm0
    split at hm0
    · rename_i e; subst e
      split at hm0
      · cases hm0
        exact go PySem.F.slot_list_insert PySem.F.type_list_insert mt_insert (by intro z; rw [z] at hlen; simp at hlen; omega)
      · cases hm0
    · cases hm0
  refine PE.mono main fun σ H Q hh => ?_
  obtain ⟨W, e, out, e', E, hm, hp⟩ := hh
  simp only [ev] at hm
  obtain ⟨ts0, h0, hm⟩ := isLst_some hm
  obtain ⟨v, hv, sl⟩ := E.sl i _ h0
  obtain ⟨p, ev1, nG, o, ho, ow⟩ := (show ∃ p, v = .ref p ∧ Own A W H (.lst ts0) p from sl)
  subst ev1
  obtain ⟨ws, eo, fw⟩ := ow
  subst eo
  refine ⟨.ref p, hv, .inl ⟨rfl, ws, .inl (.inl ho)⟩, ?_⟩
  refine step E (.refl _ W H e.s σ) hm hp (fun z => by simp [Ex.quiet] at z) fun ts e1 W1 H1 vs hm E1 S1 s1 r1 => ?_
  have r1 : FzL A W1 ts vs := r1
  unfold mutS at hm
  split at hm
  · rename_i x' hx'
    split at hm
    · rename_i t' y hmt
      cases hm
      have S1 : Stp false W H e.s σ W1 H1 e1.s := S1
      exact mu_ok hmt E1 S1 hx' hv r1 fun W' H' v' E' S' f' => hp W' H' E' S' v' (show Fz A W' y v' from f')
    · cases hm
  · cases hm
end
end PB
end
section
set_option Elab.async false
set_option linter.all false
set_option maxRecDepth 100000
/-! PB16: calls: what a def promises; handing arguments over and coming back. -/
namespace PB
open PySem PySem.Spec PyProof.Rows L2
section
variable {A : Cad} {K : PySem.W.Frag} {XE : XK}
/-- a def's promise -/
def spB (A : Cad) (K : PySem.W.Frag) (orc : List T → Option Draw → Option (Out R × Option Draw)) (n : Nat) : Sp := fun vs H Q E => vs.length = n ∧ ∃ (W : Wd) (ts : List T) (d : Option Draw) (out : Out R) (d' : Option Draw),
  EnvOk A K W H [] ⟨[], d⟩ ∧ FzL A W ts vs ∧ orc ts d = some (out, d') ∧ ∀ W' H', EnvOk A K W' H' [] ⟨[], d'⟩ → Stp false W H [] [] W' H' [] → match out with
    | .ok r => ∀ v, Res A H W' H' r v → Q v H'
    | .exc C fs => ∀ cls dd, ExOk A W' H' C fs cls dd → E cls dd H'
theorem EnvOk.bare {W : Wd} {H : Hp} {σ : L2.St} {e : Ev} (E : EnvOk A K W H σ e) : EnvOk A K W H [] ⟨[], e.d⟩ :=
  ⟨E.le, E.dr, E.sc, rfl, fun i r h => by simp at h, fun i j p ⟨⟨_, h⟩, _⟩ => by simp at h, fun i p ⟨⟨_, h⟩, _⟩ => by simp at h⟩
theorem noOwn {σ : L2.St} {i : Nat} {p : Addr} : ¬ Ow [] σ i p := fun ⟨⟨_, h⟩, _⟩ => by simp at h
theorem frzV_len : ∀ (es : List Ex) (s : List (Option R)), (frzV es s).length = s.length
  | [], s => rfl
  | e :: es, s => by
    cases e <;> simp only [frzV] <;> first | exact frzV_len es s | (rw [frzV_len es, frz1_len])
/-- what the handed names leave in the slots -/
theorem frzV_get : ∀ (es : List Ex) (s : List (Option R)) (i : Nat) (r : R), (frzV es s)[i]? = some (some r) →
    (s[i]? = some (some r) ∧ (r.1 = true → Ex.var i ∉ es)) ∨ (r.1 = false ∧ s[i]? = some (some (true, r.2)) ∧ Ex.var i ∈ es)
  | [], s, i, r, h => .inl ⟨h, fun _ => by simp⟩
  | e :: es, s, i, r, h => by
    have other : (∀ j, e ≠ .var j) → frzV (e :: es) s = frzV es s := fun n => by cases e <;> first | rfl | exact absurd rfl (n _)
    by_cases hv : ∃ j, e = .var j
    · obtain ⟨j, rfl⟩ := hv
      have h : (frzV es (frz1 j s))[i]? = some (some r) := h
      rcases frzV_get es _ i r h with ⟨h1, h2⟩ | ⟨h1, h2, h3⟩
      · rw [frz1_get] at h1
        by_cases c : j = i
        · subst c
          rw [if_pos rfl] at h1
          split at h1
          · rename_i t ht
            cases h1
            exact .inr ⟨rfl, ht, by simp⟩
          · rename_i hn
            refine .inl ⟨h1, fun w => ?_⟩
            obtain ⟨o, t⟩ := r
            cases w
            exact (hn t h1).elim
        · rw [if_neg c] at h1
          refine .inl ⟨h1, fun w => ?_⟩
          rw [List.mem_cons]
          rintro (z | z)
          · cases z; exact c rfl
          · exact h2 w z
      · rw [frz1_get] at h2
        by_cases c : j = i
        · subst c
          rw [if_pos rfl] at h2
          split at h2
          · cases h2
          · rename_i hn
            exact (hn _ h2).elim
        · rw [if_neg c] at h2
          exact .inr ⟨h1, h2, by simp [h3]⟩
    · rw [other fun j z => hv ⟨j, z⟩] at h
      rcases frzV_get es _ i r h with ⟨h1, h2⟩ | ⟨h1, h2, h3⟩
      · refine .inl ⟨h1, fun w => ?_⟩
        rw [List.mem_cons]
        rintro (z | z)
        · exact hv ⟨i, z.symm⟩
        · exact h2 w z
      · exact .inr ⟨h1, h2, by simp [h3]⟩
theorem varOf_some {e : Ex} {i : Nat} (h : e.varOf = some i) : e = .var i := by
  cases e <;> simp only [Ex.varOf, Option.some.injEq, reduceCtorEq] at h
  rw [h]
theorem RvL.mem {W : Wd} {H : Hp} {s : List (Option R)} {σ : L2.St} : ∀ {es : List Ex} {ts : List T} {vs : List V}, RvL A W H s σ es ts vs → ∀ {t : T} {v : V}, (t, v) ∈ ts.zip vs → ∃ e ∈ es, RvA A e.varOf W H s σ t v
  | [], [], [], _, t, v, h => by cases h
  | e :: es, t0 :: ts, v0 :: vs, h, t, v, hm => by
    simp only [RvL] at h
    rw [List.zip_cons_cons, List.mem_cons] at hm
    rcases hm with z | z
    · cases z; exact ⟨e, by simp, h.1⟩
    · obtain ⟨e', h1, h2⟩ := RvL.mem h.2 z
      exact ⟨e', by simp [h1], h2⟩
  | [], [], _ :: _, h, _, _, _ => by simp only [RvL] at h
  | [], _ :: _, _, h, _, _, _ => by simp only [RvL] at h
  | _ :: _, [], _, h, _, _, _ => by simp only [RvL] at h
  | _ :: _, _ :: _, [], h, _, _, _ => by simp only [RvL] at h
theorem RvL.var {W : Wd} {H : Hp} {s : List (Option R)} {σ : L2.St} {i : Nat} : ∀ {es : List Ex} {ts : List T} {vs : List V}, RvL A W H s σ es ts vs → Ex.var i ∈ es → ∃ t v, (t, v) ∈ ts.zip vs ∧ RvA A (some i) W H s σ t v
  | [], _, _, _, h => by cases h
  | e :: es, t0 :: ts, v0 :: vs, h, hm => by
    simp only [RvL] at h
    rw [List.mem_cons] at hm
    rcases hm with z | z
    · subst z; exact ⟨t0, v0, by simp, h.1⟩
    · obtain ⟨t, v, h1, h2⟩ := RvL.var h.2 z
      exact ⟨t, v, by simp [h1], h2⟩
  | _ :: _, [], _, h, _ => by simp only [RvL] at h
  | _ :: _, _ :: _, [], h, _ => by simp only [RvL] at h
theorem fz_there {W : Wd} {t : T} {p : Addr} (h : Fz A W t (.ref p)) (r : t.rt = true) : ∃ o, W.G p = some o := by
  cases t <;> simp only [T.rt, Bool.false_eq_true] at r <;> simp only [Fz] at h
  · obtain ⟨a, vs, e1, g1, _⟩ := h; cases e1; exact ⟨_, g1⟩
  · obtain ⟨a, vs, e1, g1, _⟩ := h; cases e1; exact ⟨_, g1⟩
  · obtain ⟨a, vs, e1, g1, _⟩ := h; cases e1; exact ⟨_, g1⟩
  · obtain ⟨a, dx, vs, e1, g1, _⟩ := h; cases e1; exact ⟨_, g1⟩
/-- the handed objects -/
def Hnd (A : Cad) (W : Wd) (H : Hp) (ts : List T) (vs : List V) (a : Addr) : Prop := ∃ t v, (t, v) ∈ ts.zip vs ∧ v = .ref a ∧ Own A W H t a
theorem RvL.fzl {W : Wd} {H : Hp} {s : List (Option R)} {σ : L2.St} (B : Addr → Prop) : ∀ {es : List Ex} {ts : List T} {vs : List V}, RvL A W H s σ es ts vs → (∀ a, Hnd A W H ts vs a → B a) → FzL A (W.add H B) ts vs
  | [], [], [], _, _ => by simp only [FzL]
  | e :: es, t0 :: ts, v0 :: vs, h, hB => by
    simp only [RvL] at h
    simp only [FzL]
    refine ⟨?_, h.2.fzl B fun a ⟨t, v, h1, h2, h3⟩ => hB a ⟨t, v, by simp [h1], h2, h3⟩⟩
    rcases h.1.1 with z | ⟨p, e1, ow, _⟩
    · exact z.mono A (Wd.add_le W H B)
    · subst e1
      have b := hB p ⟨t0, _, by simp, rfl, ow⟩
      obtain ⟨g, o, ho, r⟩ := ow
      refine OwnO.fz A (r.mono A (Wd.add_le W H B)) ?_
      exact Wd.add_in g b ho (OwnO.tb r)
  | [], [], _ :: _, h, _ => by simp only [RvL] at h
  | [], _ :: _, _, h, _ => by simp only [RvL] at h
  | _ :: _, [], _, h, _ => by simp only [RvL] at h
  | _ :: _, _ :: _, [], h, _ => by simp only [RvL] at h
/-- the arguments are handed over -/
theorem enter {q : Bool} {W0 W : Wd} {H0 H : Hp} {s0 : List (Option R)} {σ : L2.St} {e : Ev} {es : List Ex} {ts : List T} {vs : List V} (E : EnvOk A K W H σ e) (S : Stp q W0 H0 s0 σ W H e.s) (r : RvL A W H e.s σ es ts vs) (n : NwL A W H H0 s0 σ ts vs) :
    FzL A (W.add H (Hnd A W H ts vs)) ts vs ∧ EnvOk A K (W.add H (Hnd A W H ts vs)) H σ ⟨frzV es e.s, e.d⟩ ∧ Stp q W0 H0 s0 σ (W.add H (Hnd A W H ts vs)) H (frzV es e.s) := by
  refine ⟨r.fzl _ fun a h => h, ?_⟩
  refine add_ok E S (fun a ⟨t, v, h1, h2, h3⟩ => ?_) ⟨frzV_len es e.s, fun i r0 h => ?_⟩
  · obtain ⟨e0, _, h4⟩ := r.mem h1
    subst h2
    refine ⟨?_, h3.1, ?_⟩
    · rcases h4.1 with z | ⟨p, e1, _, _, nd⟩
      · exact (fz_not_own E z h3).elim
      · cases e1; exact nd
    · rcases n t _ a h1 rfl h3 with z | z
      · exact .inr (.inl z)
      · exact .inl z
  · rcases frzV_get es e.s i r0 h with ⟨h1, h2⟩ | ⟨h1, h2, h3⟩
    · refine .inl ⟨h1, fun hr p hp ⟨t, v, h4, h5, h6⟩ => ?_⟩
      obtain ⟨e0, h7, h8⟩ := r.mem h4
      subst h5
      have w : Ow e.s σ i p := ⟨⟨r0.2, by rw [h1]; obtain ⟨o, t⟩ := r0; cases hr; rfl⟩, hp⟩
      rcases h8.1 with z | ⟨p', e1, _, h9, _⟩
      · exact fz_not_own E z h6
      · cases e1
        have z := varOf_some (h9 i w)
        subst z
        exact h2 hr h7
    · refine .inr ⟨h1, h2, fun p hp => ?_⟩
      obtain ⟨t, v, h4, h5, h6⟩ := r.var h3
      obtain ⟨h7, h8⟩ := h6 i rfl
      rw [hp] at h7
      cases h7
      have w : Ow e.s σ i p := ⟨⟨r0.2, h2⟩, hp⟩
      rcases h5 with z | ⟨p', e1, ow, _⟩
      · obtain ⟨o, g⟩ := fz_there z (h8 ⟨p, w⟩)
        exact (frozen_not_own E g w).elim
      · cases e1
        exact ⟨t, _, h4, rfl, ow⟩
/-- a callee is back: the slots as they were -/
theorem over {W W' : Wd} {H H' : Hp} {σ : L2.St} {e : Ev} {d' : Option Draw} (E : EnvOk A K W H σ e) (E' : EnvOk A K W' H' [] ⟨[], d'⟩) (S : Stp false W H [] [] W' H' []) : EnvOk A K W' H' σ ⟨e.s, d'⟩ ∧ Stp true W H e.s σ W' H' e.s := by
  have own : ∀ {t : T} {p : Addr}, Own A W H t p → NoDr W p → Own A W' H' t p := fun {t p} ⟨g, o, ho, r⟩ nd => by
    have h' := S.keep p o ho (.inr fun i => noOwn) nd
    refine ⟨?_, o, h', r.mono A S.wle⟩
    cases z : W'.G p with
    | none => rfl
    | some o' =>
      exfalso
      rcases S.new p o' z with w | ⟨i, w⟩ | w | ⟨vs, w⟩
      · rw [g] at w; cases w
      · exact noOwn w
      · rw [ho] at w; cases w
      · subst w
        have w := E'.at_ z rfl
        rw [h'] at w
        cases w
        cases t <;> simp only [OwnO] at r
        · obtain ⟨_, e1, _⟩ := r; cases e1
        · obtain ⟨_, e1, _⟩ := r; cases e1
        · obtain ⟨_, e1, _⟩ := r; cases e1
        · obtain ⟨_, _, e1, _⟩ := r; cases e1
  refine ⟨⟨E'.le, E'.dr, E'.sc, E.len, fun i r h => ?_, E.dj, fun i p w => ?_⟩, ⟨S.wle, fun a o h _ nd => S.keep a o h (.inr fun i => noOwn) nd, S.dom, fun a o h => ?_, fun i p w => w, S.drn⟩⟩
  · obtain ⟨v, h1, h2⟩ := E.sl i r h
    refine ⟨v, h1, ?_⟩
    obtain ⟨o, t⟩ := r
    cases o with
    | false => exact Fz.mono A S.wle h2
    | true =>
      obtain ⟨p, e1, ow⟩ := (show ∃ p, v = .ref p ∧ Own A W H t p from h2)
      exact (show ∃ p, v = .ref p ∧ Own A W' H' t p from ⟨p, e1, own ow (E.nd i p ⟨⟨t, h⟩, by rw [h1, e1]⟩)⟩)
  · refine S.nodr ?_ (E.nd i p w)
    obtain ⟨_, _, _, o, ho, _⟩ := Ow.there E w
    rw [ho]; simp
  · rcases S.new a o h with z | ⟨i, z⟩ | z | z
    · exact .inl z
    · exact (noOwn z).elim
    · exact .inr (.inr (.inl z))
    · exact .inr (.inr (.inr z))
open Classical in
/-- the handed objects may change again -/
noncomputable def thinG (W W' : Wd) (B : Addr → Prop) : Hp := fun a => if B a then W.G a else W'.G a
theorem thinG_gt (W W' : Wd) (B : Addr → Prop) : ∀ a o, thinG W W' B a = some o → isTb o = false := fun a o h => by
  unfold thinG at h
  by_cases b : B a
  · rw [if_pos b] at h; exact W.gt a o h
  · rw [if_neg b] at h; exact W'.gt a o h
noncomputable def Wd.thin (W W' : Wd) (B : Addr → Prop) : Wd := { W' with G := thinG W W' B, gt := thinG_gt W W' B }
theorem thin_ok {W W' : Wd} {H H' : Hp} {B : Addr → Prop} {d' : Option Draw} (hB : ∀ a, B a → W.G a = none) (E' : EnvOk A K W' H' [] ⟨[], d'⟩) (S : Stp false (W.add H B) H [] [] W' H' []) :
    EnvOk A K (W.thin W' B) H' [] ⟨[], d'⟩ ∧ Stp false W H [] [] (W.thin W' B) H' [] := by
  have out : ∀ {a o}, (W.thin W' B).G a = some o → ¬ B a ∧ W'.G a = some o := fun {a o} h => by
    by_cases b : B a
    · simp only [Wd.thin, thinG, if_pos b, hB a b] at h
      cases h
    · simp only [Wd.thin, thinG, if_neg b] at h
      exact ⟨b, h⟩
  have no : ∀ {a}, W'.G a = none → (W.thin W' B).G a = none := fun {a} h => by
    by_cases b : B a
    · simp only [Wd.thin, thinG, if_pos b, hB a b]
    · simp only [Wd.thin, thinG, if_neg b, h]
  refine ⟨⟨fun a o h => E'.le a o (out h).2, ?_, E'.sc, rfl, fun i r h => by simp at h, E'.dj, E'.nd⟩, ⟨⟨fun a o h => ?_, S.wle.d, S.wle.s, S.wle.t, S.wle.n⟩, fun a o h n nd => S.keep a o h n nd, S.dom, fun a o h => ?_, S.own, S.drn⟩⟩
  · have z := E'.dr
    unfold DrOk at z ⊢
    have hd : (W.thin W' B).dr = W'.dr := rfl
    rw [hd]
    cases d' with
    | none =>
      cases hw : W'.dr with
      | none => trivial
      | some x => rw [hw] at z; exact z
    | some D =>
      cases hw : W'.dr with
      | none => rw [hw] at z; exact z
      | some x =>
        obtain ⟨x, y⟩ := x
        rw [hw] at z
        obtain ⟨z1, z2, z3, z4, z5⟩ := z
        exact ⟨z1, no z2, no z3, z4, z5⟩
  · have b : ¬ B a := fun b => by rw [hB a b] at h; cases h
    simp only [Wd.thin, thinG, if_neg b]
    exact S.wle.g a o (Wd.add_old h)
  · obtain ⟨b, h⟩ := out h
    rcases S.new a o h with z | z | z | z
    · rcases Wd.add_some z with w | ⟨_, w, _⟩
      · exact .inl w
      · exact (b w).elim
    · exact .inr (.inl z)
    · exact .inr (.inr (.inl z))
    · exact .inr (.inr (.inr z))
mutual
theorem fz_light {W W2 : Wd} (hg : ∀ a vs, W.G a = some (.tup vs) → W2.G a = some (.tup vs)) (hd : W2.dr = W.dr) (hs : W2.sc = W.sc) (hn : W2.ns = W.ns) : ∀ {t : T} {v : V}, t.hv = false → Fz A W t v → Fz A W2 t v
  | .non, _, _, h => by simpa [Fz] using h
  | .bl _, _, _, h => by simpa [Fz] using h
  | .int _, _, _, h => by simpa [Fz] using h
  | .str _, _, _, h => by simpa [Fz] using h
  | .lst ts, _, l, _ => by simp only [T.hv, Bool.true_eq_false] at l
  | .dK ts, _, l, _ => by simp only [T.hv, Bool.true_eq_false] at l
  | .dT ts, _, l, _ => by simp only [T.hv, Bool.true_eq_false] at l
  | .ins _ _, _, l, _ => by simp only [T.hv, Bool.true_eq_false] at l
  | .tup ts, _, l, h => by
    simp only [Fz] at h ⊢
    simp only [T.hv] at l
    obtain ⟨a, vs, e, g, r⟩ := h
    exact ⟨a, vs, e, hg _ _ g, fz_lights hg hd hs hn l r⟩
  | .tok, _, _, h => by
    simp only [Fz] at h ⊢
    rw [hd]
    exact h
  | .scr ns, _, _, h => by
    simp only [Fz] at h ⊢
    rw [hs, hn]
    exact h
theorem fz_lights {W W2 : Wd} (hg : ∀ a vs, W.G a = some (.tup vs) → W2.G a = some (.tup vs)) (hd : W2.dr = W.dr) (hs : W2.sc = W.sc) (hn : W2.ns = W.ns) : ∀ {t : List T} {v : List V}, T.hvs t = false → FzL A W t v → FzL A W2 t v
  | [], [], _, _ => by simp only [FzL]
  | t :: ts, v :: vs, l, h => by
    simp only [FzL] at h ⊢
    simp only [T.hvs, Bool.or_eq_false_iff] at l
    exact ⟨fz_light hg hd hs hn l.1 h.1, fz_lights hg hd hs hn l.2 h.2⟩
  | [], _ :: _, _, h => by simp only [FzL] at h
  | _ :: _, [], _, h => by simp only [FzL] at h
end
theorem fzK_light {W W2 : Wd} (hg : ∀ a vs, W.G a = some (.tup vs) → W2.G a = some (.tup vs)) (hd : W2.dr = W.dr) (hs : W2.sc = W.sc) (hn : W2.ns = W.ns) : ∀ {t : List (Key × T)} {v : List (Key × V)}, (t.any fun p => p.2.hv) = false → FzK A W t v → FzK A W2 t v
  | [], [], _, _ => by simp only [FzK]
  | (k, t) :: ts, (k', v) :: vs, l, h => by
    simp only [FzK] at h ⊢
    simp only [List.any_cons, Bool.or_eq_false_iff] at l
    exact ⟨h.1, fz_light hg hd hs hn l.1 h.2.1, fzK_light hg hd hs hn l.2 h.2.2⟩
  | [], _ :: _, _, h => by simp only [FzK] at h
  | _ :: _, [], _, h => by simp only [FzK] at h
theorem fzT_light {W W2 : Wd} (hg : ∀ a vs, W.G a = some (.tup vs) → W2.G a = some (.tup vs)) (hd : W2.dr = W.dr) (hs : W2.sc = W.sc) (hn : W2.ns = W.ns) : ∀ {t : List (List Key × T)} {v : List (List Key × V)}, (t.any fun p => p.2.hv) = false → FzT A W t v → FzT A W2 t v
  | [], [], _, _ => by simp only [FzT]
  | (k, t) :: ts, (k', v) :: vs, l, h => by
    simp only [FzT] at h ⊢
    simp only [List.any_cons, Bool.or_eq_false_iff] at l
    exact ⟨h.1, fz_light hg hd hs hn l.1 h.2.1, fzT_light hg hd hs hn l.2 h.2.2⟩
  | [], _ :: _, _, h => by simp only [FzT] at h
  | _ :: _, [], _, h => by simp only [FzT] at h
theorem fzF_light {W W2 : Wd} (hg : ∀ a vs, W.G a = some (.tup vs) → W2.G a = some (.tup vs)) (hd : W2.dr = W.dr) (hs : W2.sc = W.sc) (hn : W2.ns = W.ns) : ∀ {t : List (Str × T)} {v : List (Str × V)}, (t.any fun p => p.2.hv) = false → FzF A W t v → FzF A W2 t v
  | [], [], _, _ => by simp only [FzF]
  | (k, t) :: ts, (k', v) :: vs, l, h => by
    simp only [FzF] at h ⊢
    simp only [List.any_cons, Bool.or_eq_false_iff] at l
    exact ⟨h.1, fz_light hg hd hs hn l.1 h.2.1, fzF_light hg hd hs hn l.2 h.2.2⟩
  | [], _ :: _, _, h => by simp only [FzF] at h
  | _ :: _, [], _, h => by simp only [FzF] at h
/-- a light result does not hold the handed objects -/
theorem thin_res {W W' : Wd} {H Hs H' : Hp} {ts : List T} {vs : List V} {d' : Option Draw} {r : R} {v : V} (hl : hvR r = false) (E' : EnvOk A K W' H' [] ⟨[], d'⟩) (S : Stp false (W.add H (Hnd A W H ts vs)) H [] [] W' H' []) (h : Res A Hs W' H' r v) :
    Res A Hs (W.thin W' (Hnd A W H ts vs)) H' r v := by
  have hg : ∀ a us, W'.G a = some (.tup us) → (W.thin W' (Hnd A W H ts vs)).G a = some (.tup us) := fun a us h => by
    by_cases b : Hnd A W H ts vs a
    · exfalso
      have b0 := b
      obtain ⟨t, _, _, _, g, o, ho, r⟩ := b0
      have z := S.wle.g a o (Wd.add_in g b ho (OwnO.tb r))
      rw [h] at z
      cases z
      cases t <;> simp only [OwnO] at r
      · obtain ⟨_, e1, _⟩ := r; cases e1
      · obtain ⟨_, e1, _⟩ := r; cases e1
      · obtain ⟨_, e1, _⟩ := r; cases e1
      · obtain ⟨_, _, e1, _⟩ := r; cases e1
    · simp only [Wd.thin, thinG, if_neg b, h]
  obtain ⟨o, t⟩ := r
  cases o with
  | false => exact fz_light (A := A) (W2 := W.thin W' (Hnd A W H ts vs)) hg rfl rfl rfl hl h
  | true =>
    obtain ⟨p, e1, ⟨g, o, ho, r⟩, hn, nd⟩ := (show ∃ p, v = .ref p ∧ Own A W' H' t p ∧ Hs p = none ∧ NoDr W' p from h)
    have hl : t.hvIn = false := hl
    refine (show ∃ p, v = .ref p ∧ Own A (W.thin W' (Hnd A W H ts vs)) H' t p ∧ Hs p = none ∧ NoDr (W.thin W' (Hnd A W H ts vs)) p from ⟨p, e1, ⟨?_, o, ho, ?_⟩, hn, nd⟩)
    · by_cases b : Hnd A W H ts vs p
      · have b0 := b
        obtain ⟨_, _, _, _, g, _⟩ := b0
        simp only [Wd.thin, thinG, if_pos b, g]
      · simp only [Wd.thin, thinG, if_neg b, g]
    · cases t <;> simp only [OwnO] at r ⊢
      · obtain ⟨vs, e, r⟩ := r; exact ⟨vs, e, fz_lights (A := A) hg rfl rfl rfl hl r⟩
      · obtain ⟨vs, e, r⟩ := r; exact ⟨vs, e, fzK_light (A := A) hg rfl rfl rfl hl r⟩
      · obtain ⟨vs, e, r⟩ := r; exact ⟨vs, e, fzT_light (A := A) hg rfl rfl rfl hl r⟩
      · obtain ⟨dx, vs, e, r, hc⟩ := r; exact ⟨dx, vs, e, fzF_light (A := A) hg rfl rfl rfl hl r, hc⟩
/-- the callee's promise, at the call -/
theorem call_ok {q : Bool} {C : Orc} {f n : Nat} {es : List Ex} {ts : List T} {W0 W : Wd} {H0 H : Hp} {s0 : List (Option R)} {σ : L2.St} {e e' : Ev} {out : Out R} {vs : List V} {Q : VK} (E : EnvOk A K W H σ e) (S : Stp q W0 H0 s0 σ W H e.s)
    (hm : callO C f es ts e = some (out, e')) (hp : Post A K XE q (rE A) W0 H0 s0 σ out e' Q) (r : RvL A W H e.s σ es ts vs) (nw : NwL A W H H0 s0 σ ts vs) (hn : vs.length = n) : spB A K (C f) n vs H Q XE := by
  obtain ⟨f1, E1, S1⟩ := enter E S r nw
  have hB : ∀ a, Hnd A W H ts vs a → W.G a = none := fun a ⟨_, _, _, _, g, _⟩ => g
  unfold callO at hm
  cases hc : C f ts e.d with
  | none => rw [hc] at hm; cases hm
  | some x =>
    rw [hc] at hm
    obtain ⟨o, d⟩ := x
    refine ⟨hn, _, ts, e.d, o, d, E1.bare, f1, hc, fun W' H' E' S' => ?_⟩
    cases o with
    | exc c fs =>
      cases hm
      intro cls dd x
      obtain ⟨E2, S2⟩ := over E1 E' S'
      exact hp W' H' E2 (S1.trans (S2.weak fun _ => rfl)) cls dd x
    | ok r0 =>
      intro v hv
      cases hh : hvR r0 with
      | true =>
        simp only [hh, if_true] at hm
        cases hm
        obtain ⟨E2, S2⟩ := over E1 E' S'
        exact hp W' H' E2 (S1.trans (S2.weak fun _ => rfl)) v (Res.from hv S1)
      | false =>
        simp only [hh, Bool.false_eq_true, if_false] at hm
        cases hm
        obtain ⟨E2, S2⟩ := thin_ok hB E' S'
        obtain ⟨E3, S3⟩ := over E E2 S2
        exact hp _ H' E3 (S.trans (S3.weak fun _ => rfl)) v (Res.from (thin_res hh E' S' hv) S)
end
end PB
end
section
set_option Elab.async false
set_option linter.all false
set_option maxRecDepth 100000
/-! PB17: calls of defs, of methods, of classes. -/
namespace PB
open PySem PySem.Spec PyProof.Rows L2
section
variable {A : Cad} {K : PySem.W.Frag} {XE : XK} {C : Orc} {X : Cx} {pos p : Pos} {a b c d : Expr} {ia ib ic id : Ex}
/-- a def of the module, by its promise -/
structure FnK (X : Cx) (A : Cad) (C : Orc) (k : Nat) (x : Str) (f n : Nat) (fa : Addr) (fd : FuncData) (ps : List Str) : Prop where
  ok : FnOk X.prog X.w X.K X.mg X.base (L2.CX X.prog X.w) k fa fd ps (spB A X.K (C f) n)
  mg : X.mg x = some (.ref fa)
  kp : PySem.W.keepIn X.K (.ref fa) = true
  bd : Binds X.K fd ps []
theorem PeL.len : ∀ {es : List Expr} {is : List Ex}, PeL A K XE C X es is → es.length = is.length
  | [], [], _ => rfl
  | _ :: es, _ :: is, h => by
    simp only [PeL] at h
    simp only [List.length_cons, h.2.len]
  | [], _ :: _, h => by simp only [PeL] at h
  | _ :: _, [], h => by simp only [PeL] at h
theorem RvL.len {W : Wd} {H : Hp} {s : List (Option R)} {σ : L2.St} : ∀ {es : List Ex} {ts : List T} {vs : List V}, RvL A W H s σ es ts vs → vs.length = es.length ∧ ts.length = es.length
  | [], [], [], _ => ⟨rfl, rfl⟩
  | _ :: es, _ :: ts, _ :: vs, h => by
    simp only [RvL] at h
    simp only [List.length_cons, h.2.len.1, h.2.len.2, and_self]
  | [], [], _ :: _, h => by simp only [RvL] at h
  | [], _ :: _, _, h => by simp only [RvL] at h
  | _ :: _, [], _, h => by simp only [RvL] at h
  | _ :: _, _ :: _, [], h => by simp only [RvL] at h
theorem b_call {x : Str} {f k : Nat} {fa : Addr} {fd : FuncData} {ps : List Str} {es : List Expr} {is : List Ex} (hK : X.K = K) (hx : Passes (L2.CX X.prog X.w) X XE) (hg : Gl X x) (F : FnK X A C k x f is.length fa fd ps) (hr : Room k X.A) (hd : (x == ("__debug__" : Str)) = false)
    (ha : PeL A K XE C X es is) : Pe A K XE C X (.Call (.Name x p) es [] pos) (.call f is) := by
  have main : PE X (.Call (.Name x p) es [] pos) (tCall (spB A X.K (C f) is.length) [] XE (tRL A K XE is (Ex.quiets is) (evRs C is))) := by
    cases es with
    | nil =>
      cases is with
      | cons _ _ => simp only [PeL] at ha
      | nil =>
        refine PE.mono (pe_call0 F.ok hr hg F.mg F.kp F.bd .nil hx hd) fun σ H Q hh => ?_
        obtain ⟨W, e, out, e', E, hm, hp⟩ := hh
        simp only [evRs, ret, Option.some.injEq, Prod.mk.injEq] at hm
        obtain ⟨h1, h2⟩ := hm
        subst h1 h2
        exact hp W H E (.refl _ W H _ σ) [] ⟨(by simp only [RvL]), fun t v p z => by cases z⟩
    | cons e es => exact pe_call F.ok hr hg F.mg F.kp F.bd .nil hx (a_evRs ha) hd (star_ok (by have := ha.star; simp only [List.all_cons, Bool.and_eq_true] at this; exact this.1) _ _) (plain_ok (by have := ha.star; simp only [List.all_cons, Bool.and_eq_true] at this; exact this.2) _ _)
  refine PE.mono main fun σ H Q hh => ?_
  obtain ⟨W, e, out, e', E, hm, hp⟩ := hh
  simp only [ev] at hm
  refine step E (.refl _ W H e.s σ) hm hp (fun z => by simpa [Ex.quiet] using z) fun ts e1 W1 H1 vs hm E1 S1 s1 r1 => ?_
  rw [List.append_nil, hK]
  exact call_ok E1 S1 hm hp r1.1 r1.2 r1.1.len.1
/-! methods -/
theorem meth_tree {o : Expr} {m : Str} {ap cp : Pos} {es : List Expr} {env : Env} (hb : okBase o = true) (hs : es.all noStar = true) (hl : es.length < 29) (hln : (ap.endLine == cp.line) = true) :
    eval (.Call (.Attribute o m ap) es [] cp) env = (do
      let ov ← eval o env
      standAt ap.atName
      let (f, first) ← holding [ov] (getMethod ov m (do return (← importBound o env).getD true))
      callWith cp f first (backTo cp (starEach es env)) (backToKw cp (keywordEach [] env))) := by
  have hf : methodCallForm (es.length + ([] : List Keyword).length) (backTo cp (starEach es env)) (backToKw cp (keywordEach [] env)) = true := few_ok hs hl cp env
  have hp : methodCallPos true o env ap cp = pure cp := by
    unfold methodCallPos
    rw [hln]
    rfl
  rw [arm_eval_Call, base_ok hb]
  unfold methodCall
  rw [hf, hp]
  rfl
structure MtK (X : Cx) (A : Cad) (C : Orc) (k : Nat) (Cn m : Str) (f n : Nat) (fa : Addr) (fd : FuncData) (ps : List Str) : Prop where
  ok : FnOk X.prog X.w X.K X.mg X.base (L2.CX X.prog X.w) k fa fd ps (spB A X.K (C f) n)
  cl : Cls X.K (A.ad Cn)
  mt : Meth X.K (A.ad Cn) m fa
  bd : Binds X.K fd ps []
theorem look_none {W : Wd} {m : Str} : ∀ {fs : List (Str × T)} {ws : List (Str × V)}, FzF A W fs ws → (lookF fs m).isNone = true → ws.lookup m = none
  | [], [], _, _ => rfl
  | (k, u) :: fs, (k', w) :: ws, h, hl => by
    simp only [FzF] at h
    obtain ⟨e1, h1, h2⟩ := h
    subst e1
    by_cases c : k = m
    · subst c
      simp [lookF] at hl
    · have z : lookF ((k, u) :: fs) m = lookF fs m := by simp [lookF, List.find?_cons, c]
      rw [z] at hl
      have c' : (m == k) = false := by simpa using fun z => c z.symm
      simp only [List.lookup, c']
      exact look_none h2 hl
  | [], _ :: _, h, _ => by simp only [FzF] at h
  | _ :: _, [], h, _ => by simp only [FzF] at h
theorem b_meth {o : Expr} {io : Ex} {Cn m : Str} {f k : Nat} {fa : Addr} {fd : FuncData} {ps : List Str} {es : List Expr} {is : List Ex} {ap cp : Pos} (hK : X.K = K) (hx : Passes (L2.CX X.prog X.w) X XE) (F : MtK X A C k Cn m f (is.length + 1) fa fd ps) (hr : Room k X.A)
    (hb : okBase o = true) (hl : es.length < 29) (hln : (ap.endLine == cp.line) = true) (ho : Pn A K XE C X o io) (ha : PeL A K XE C X es is) : Pe A K XE C X (.Call (.Attribute o m ap) es [] cp) (.meth io Cn m f is) := by
  have ht := meth_tree (o := o) (m := m) (env := X.env) hb ha.star hl hln
  have main : PE X (.Call (.Attribute o m ap) es [] cp) (tMeth (A.ad Cn) m (spB A X.K (C f) (is.length + 1)) [] XE (tN A K XE io.varOf io.quiet (rdm io (ev C io))) (tRL A K XE is (Ex.quiets is) (evRs C is))) := by
    cases es with
    | nil =>
      cases is with
      | cons _ _ => simp only [PeL] at ha
      | nil =>
        refine PE.mono (pe_meth0 ho F.cl F.mt F.ok hr F.bd .nil hx ht) fun σ H Q hh => ?_
        obtain ⟨W, e, out, e', E, hm, hp⟩ := hh
        refine ⟨W, e, out, e', E, hm, ?_⟩
        intro W' H' E' S'
        have z := hp W' H' E' S'
        cases out with
        | exc c fs => exact z
        | ok x =>
          intro v rv
          obtain ⟨a, dx, fs, h1, h2, h3, W2, e2, out2, e3, E2, hm2, hp2⟩ := z v rv
          refine ⟨a, dx, fs, h1, h2, h3, ?_⟩
          simp only [evRs, ret, Option.some.injEq, Prod.mk.injEq] at hm2
          obtain ⟨h4, h5⟩ := hm2
          subst h4 h5
          exact hp2 W2 H' E2 (.refl _ W2 H' _ σ) [] ⟨(by simp only [RvL]), fun t v p z => by cases z⟩
    | cons e es => exact pe_meth ho F.cl F.mt F.ok hr F.bd .nil hx (a_evRs ha) (star_ok (by have := ha.star; simp only [List.all_cons, Bool.and_eq_true] at this; exact this.1) _ _) (plain_ok (by have := ha.star; simp only [List.all_cons, Bool.and_eq_true] at this; exact this.2) _ _) ht
  refine PE.mono main fun σ H Q hh => ?_
  obtain ⟨W, e, out, e', E, hm, hp⟩ := hh
  simp only [ev] at hm
  obtain ⟨hg, hm⟩ := gd_ok hm
  have hq : (Ex.meth io Cn m f is).quiet = true → io.quiet = true ∧ Ex.quiets is = true := fun z => by simpa [Ex.quiet] using z
  refine step E (.refl _ W H e.s σ) hm hp (fun z => (hq z).1) fun x e1 W1 H1 v1 hm E1 S1 s1 r1 => ?_
  obtain ⟨hi, hm2⟩ := bnd_chk hm
  clear hm
  obtain ⟨D, fs, rfl⟩ : ∃ D fs, x = .ins D fs := by cases x <;> first | exact ⟨_, _, rfl⟩ | simp only [isIns, Bool.false_eq_true] at hi
  simp only [isIns, Bool.and_eq_true, decide_eq_true_eq] at hi
  obtain ⟨h1, h2⟩ := hi
  subst h1
  obtain ⟨q, dx, ws, z1, z2, z3, z4⟩ := rv_ins E1 r1.1.rv
  refine ⟨q, dx, ws, z1, z2, look_none z3 h2, ?_⟩
  refine step E1 S1 hm2 hp (fun z => (hq z).2) fun ts e2 W2 H2 vs hm E2 S2 s2 r2 => ?_
  rw [List.append_nil, hK]
  refine call_ok E2 S2 hm hp (es := io :: is) (by simp only [RvL]; exact ⟨r1.1.keep A s2 E2.le hg, r2.1⟩) ?_ (by simp only [List.length_cons, r2.1.len.1])
  intro t v p z e4 ow
  rw [List.zip_cons_cons, List.mem_cons] at z
  rcases z with z | z
  · cases z
    subst e4
    rcases r1.1.1 with z | ⟨p', e5, ow', _⟩
    · exact (fz_not_own E2 (z.mono A s2.wle) ow).elim
    · cases e5
      exact r1.2 p rfl ow'
  · rcases r2.2 t v p z e4 ow with z | ⟨j, z⟩
    · exact .inl (S1.dom p z)
    · exact .inr ⟨j, S1.own j p z⟩
/-! classes -/
/-- what an __init__ promises -/
def spI (A : Cad) (K : PySem.W.Frag) (orc : List T → Option Draw → Option (Out R × Option Draw)) (Cn : Str) (n : Nat) : Sp := fun vs H Q E => ∃ (x : Addr) (us : List V), vs = .ref x :: us ∧ us.length = n ∧ ∃ (W : Wd) (ts : List T) (d : Option Draw) (out : Out R) (d' : Option Draw),
  EnvOk A K W H [some (.ref x)] ⟨[some (true, .ins Cn [])], d⟩ ∧ FzL A W ts us ∧ orc ts d = some (out, d') ∧ match out with
    | .ok r => ∀ W' H', r.1 = true → EnvOk A K W' H' [some (.ref x)] ⟨[some (true, r.2)], d'⟩ → Stp false W H [some (true, .ins Cn [])] [some (.ref x)] W' H' [some (true, r.2)] → Q .non H'
    | .exc C fs => ∀ W' H', EnvOk A K W' H' [] ⟨[], d'⟩ → Stp false W H [some (true, .ins Cn [])] [some (.ref x)] W' H' [] → ∀ cls dd, ExOk A W' H' C fs cls dd → E cls dd H'
theorem spI_of {orc : List T → Option Draw → Option (Out R × Option Draw)} {n : Nat} {us : List V} {H : Hp} {Q : VK} {Cn : Str} (hC : Cn ∈ A.cl) (ho : ∀ ts d r d', orc ts d = some (.ok r, d') → r.1 = true) (h : spB A K orc n us H Q XE) {x dx : Addr} (hx : H x = none) (hd : H dx = none) (ne : dx ≠ x) :
    spI A K orc Cn n (.ref x :: us) (upd (upd H dx (.own x)) x (.ins (A.ad Cn) dx [])) (fun v H2 => v = .non ∧ Q (.ref x) H2) XE := by
  obtain ⟨hl, W, ts, d, out, d', E, f, hc, k⟩ := h
  have hx2 : upd H dx (.own x) x = none := by rw [upd_ne (Ne.symm ne)]; exact hx
  have E2 : EnvOk A K W (upd (upd H dx (.own x)) x (.ins (A.ad Cn) dx [])) [] ⟨[], d⟩ := (E.ext (upd_ext hd)).ext (upd_ext hx2)
  have ex : ∀ a o, H a = some o → upd (upd H dx (.own x)) x (.ins (A.ad Cn) dx []) a = some o := fun a o z => upd_ext hx2 _ _ (upd_ext hd _ _ z)
  have gx : W.G x = none := E.noG hx
  have nx : NoDr W x := E.noDr hx
  have ow1 : ∀ {s : List (Option R)} {i : Nat} {p : Addr}, Ow s [some (.ref x)] i p → p = x ∧ i = 0 := fun {s i p} ⟨_, w⟩ => by
    cases i with
    | zero => simp at w; exact ⟨w.symm, rfl⟩
    | succ i => simp at w
  have E3 : EnvOk A K W (upd (upd H dx (.own x)) x (.ins (A.ad Cn) dx [])) [some (.ref x)] ⟨[some (true, .ins Cn [])], d⟩ := {
    le := E2.le, dr := E2.dr, sc := E2.sc, len := rfl
    sl := fun i r h => by
      cases i with
      | succ i => simp at h
      | zero =>
        simp at h
        subst h
        exact ⟨.ref x, rfl, x, rfl, gx, _, upd_same, dx, [], rfl, (by simp only [FzF]), hC⟩
    dj := fun i j p h1 h2 => by rw [(ow1 h1).2, (ow1 h2).2]
    nd := fun i p h1 => by rw [(ow1 h1).1]; exact nx }
  have back : ∀ {W' : Wd} {H' : Hp} {s' : List (Option R)}, Stp false W (upd (upd H dx (.own x)) x (.ins (A.ad Cn) dx [])) [some (true, .ins Cn [])] [some (.ref x)] W' H' s' → Stp false W H [] [] W' H' [] := fun {W' H' s'} S => {
    wle := S.wle
    keep := fun a o z _ nd => S.keep a o (ex a o z) (.inr fun i w => by rw [(ow1 w).1, hx] at z; cases z) nd
    dom := fun a z => by
      cases w : H a with
      | none => rfl
      | some o =>
        have y := S.dom a z
        rw [ex a o w] at y; cases y
    new := fun a o z => by
      rcases S.new a o z with w | ⟨i, w⟩ | w | w
      · exact .inl w
      · exact .inr (.inr (.inl (by rw [(ow1 w).1]; exact hx)))
      · refine .inr (.inr (.inl ?_))
        cases y : H a with
        | none => rfl
        | some o => rw [ex a o y] at w; cases w
      · exact .inr (.inr (.inr w))
    own := fun i p w => (noOwn w).elim
    drn := fun d z => by
      have nn : ∀ a, upd (upd H dx (.own x)) x (.ins (A.ad Cn) dx []) a = none → H a = none := fun a w => by
        cases y : H a with
        | none => rfl
        | some o => rw [ex a o y] at w; cases w
      rcases S.drn d z with w | ⟨w1, w2⟩
      · exact .inl w
      · exact .inr ⟨nn _ w1, nn _ w2⟩ }
  refine ⟨x, us, rfl, hl, W, ts, d, out, d', E3, f, hc, ?_⟩
  cases out with
  | exc c fs => exact fun W' H' E' S' cls dd x => k W' H' E' (back S') cls dd x
  | ok r =>
    intro W' H' hr E' S'
    refine ⟨rfl, k W' H' E'.bare (back S') _ ?_⟩
    obtain ⟨o, t⟩ := r
    cases hr
    obtain ⟨v, h1, p, h2, ow⟩ := E'.sl 0 (true, t) rfl
    simp at h1
    subst h1
    cases h2
    exact ⟨x, rfl, ow, hx, E'.nd 0 x ⟨⟨t, rfl⟩, rfl⟩⟩
structure MkK (X : Cx) (A : Cad) (C : Orc) (k : Nat) (x : Str) (f n : Nat) (fa : Addr) (fd : FuncData) (ps : List Str) : Prop where
  ok : FnOk X.prog X.w X.K X.mg X.base (L2.CX X.prog X.w) k fa fd ps (spI A X.K (C f) x n)
  mkc : Mk X.K (A.ad x) fa
  mg : X.mg x = some (.ref (A.ad x))
  bd : Binds X.K fd ps []
  cl : x ∈ A.cl
  own : ∀ ts d r d', C f ts d = some (.ok r, d') → r.1 = true
theorem b_make {x : Str} {f k : Nat} {fa : Addr} {fd : FuncData} {ps : List Str} {es : List Expr} {is : List Ex} (hK : X.K = K) (hx : Passes (L2.CX X.prog X.w) X XE) (hg : Gl X x) (F : MkK X A C k x f is.length fa fd ps) (hr : Room (k + 1) X.A) (hd : (x == ("__debug__" : Str)) = false)
    (ha : PeL A K XE C X es is) : Pe A K XE C X (.Call (.Name x p) es [] pos) (.call f is) := by
  have main : PE X (.Call (.Name x p) es [] pos) (tMake (A.ad x) (spI A X.K (C f) x is.length) [] XE (tRL A K XE is (Ex.quiets is) (evRs C is))) := by
    cases es with
    | nil =>
      cases is with
      | cons _ _ => simp only [PeL] at ha
      | nil =>
        refine PE.mono (pe_make0 F.mkc F.ok hr hg F.mg F.bd .nil hx hd) fun σ H Q hh => ?_
        obtain ⟨W, e, out, e', E, hm, hp⟩ := hh
        simp only [evRs, ret, Option.some.injEq, Prod.mk.injEq] at hm
        obtain ⟨h1, h2⟩ := hm
        subst h1 h2
        exact hp W H E (.refl _ W H _ σ) [] ⟨(by simp only [RvL]), fun t v p z => by cases z⟩
    | cons e es => exact pe_make F.mkc F.ok hr hg F.mg F.bd .nil hx (a_evRs ha) hd (star_ok (by have := ha.star; simp only [List.all_cons, Bool.and_eq_true] at this; exact this.1) _ _) (plain_ok (by have := ha.star; simp only [List.all_cons, Bool.and_eq_true] at this; exact this.2) _ _)
  refine PE.mono main fun σ H Q hh => ?_
  obtain ⟨W, e, out, e', E, hm, hp⟩ := hh
  simp only [ev] at hm
  refine step E (.refl _ W H e.s σ) hm hp (fun z => by simpa [Ex.quiet] using z) fun ts e1 W1 H1 vs hm E1 S1 s1 r1 => ?_
  intro y dx h1 h2 ne
  rw [List.append_nil, hK]
  exact spI_of F.cl F.own (call_ok E1 S1 hm hp r1.1 r1.2 r1.1.len.1) h1 h2 ne
end
end PB
end
section
set_option Elab.async false
set_option linter.all false
set_option maxRecDepth 100000
/-! PB18: statements. -/
namespace PB
open PySem PySem.Spec PyProof.Rows L2
section
variable {A : Cad} {K : PySem.W.Frag} {XE : XK} {C : Orc} {X : Cx}
/-- from a state to a later one, the slots' values changed, too -/
structure Stq (W : Wd) (H : Hp) (s : List (Option R)) (σ : L2.St) (W' : Wd) (H' : Hp) (s' : List (Option R)) (σ' : L2.St) : Prop where
  wle : W.le W'
  keep : ∀ a o, H a = some o → (∀ i, ¬ Ow s σ i a) → NoDr W a → H' a = some o
  dom : ∀ a, H' a = none → H a = none
  new : ∀ a o, W'.G a = some o → W.G a = some o ∨ (∃ i, Ow s σ i a) ∨ H a = none ∨ ∃ vs, o = .tup vs
  own : ∀ i p, Ow s' σ' i p → (∃ j, Ow s σ j p) ∨ H p = none
  drn : ∀ d, W'.dr = some d → W.dr = some d ∨ (H d.1 = none ∧ H d.2 = none)
  fx : σ'[0]? = σ[0]?
theorem Stp.q {q : Bool} {W W' : Wd} {H H' : Hp} {s s' : List (Option R)} {σ : L2.St} (S : Stp q W H s σ W' H' s') : Stq W H s σ W' H' s' σ :=
  ⟨S.wle, fun a o h n d => S.keep a o h (.inr n) d, S.dom, S.new, fun i p w => .inl ⟨i, S.own i p w⟩, S.drn, rfl⟩
theorem Stq.refl (W : Wd) (H : Hp) (s : List (Option R)) (σ : L2.St) : Stq W H s σ W H s σ := (Stp.refl false W H s σ).q
theorem Stq.nodr {W W' : Wd} {H H' : Hp} {s s' : List (Option R)} {σ σ' : L2.St} (a : Stq W H s σ W' H' s' σ') {x : Addr} (h : H x ≠ none) (n : NoDr W x) : NoDr W' x := fun d e => by
  rcases e with e | ⟨e1, q, e2⟩
  case inr => exact n d (.inr ⟨e1, q, by rw [← a.wle.t]; exact e2⟩)
  rcases a.drn d e with z | ⟨z1, z2⟩
  · exact n d (.inl z)
  · exact ⟨fun w => h (w ▸ z1), fun w => h (w ▸ z2)⟩
theorem Stq.trans {W W' W2 : Wd} {H H' H2 : Hp} {s s' s2 : List (Option R)} {σ σ' σ2 : L2.St} (a : Stq W H s σ W' H' s' σ') (b : Stq W' H' s' σ' W2 H2 s2 σ2) : Stq W H s σ W2 H2 s2 σ2 where
  wle := a.wle.trans b.wle
  keep := fun x o h n d => b.keep x o (a.keep x o h n d) (fun i w => by
    rcases a.own i x w with ⟨j, z⟩ | z
    · exact n j z
    · rw [h] at z; cases z) (a.nodr (by rw [h]; simp) d)
  dom := fun x h => a.dom x (b.dom x h)
  new := fun x o h => by
    rcases b.new x o h with z | ⟨i, z⟩ | z | z
    · exact a.new x o z
    · rcases a.own i x z with z | z
      · exact .inr (.inl z)
      · exact .inr (.inr (.inl z))
    · exact .inr (.inr (.inl (a.dom x z)))
    · exact .inr (.inr (.inr z))
  own := fun i p h => by
    rcases b.own i p h with ⟨j, z⟩ | z
    · exact a.own j p z
    · exact .inr (a.dom p z)
  drn := fun d h => by
    rcases b.drn d h with z | ⟨z1, z2⟩
    · exact a.drn d z
    · exact .inr ⟨a.dom _ z1, a.dom _ z2⟩
  fx := b.fx.trans a.fx
/-- what a return hands out -/
def ResS (A : Cad) (H : Hp) (s : List (Option R)) (σ : L2.St) (W' : Wd) (H' : Hp) (r : R) (v : V) : Prop :=
  if r.1 then ∃ p, v = .ref p ∧ Own A W' H' r.2 p ∧ (H p = none ∨ ∃ j, Ow s σ j p) ∧ NoDr W' p else Fz A W' r.2 v
theorem ResS.from {W W' : Wd} {H H' : Hp} {s s' : List (Option R)} {σ σ' : L2.St} (a : Stq W H s σ W' H' s' σ') {W2 : Wd} {H2 : Hp} {r : R} {v : V} (h : ResS A H' s' σ' W2 H2 r v) : ResS A H s σ W2 H2 r v := by
  obtain ⟨o, t⟩ := r
  cases o with
  | false => exact h
  | true =>
    obtain ⟨p, e1, ow, hn, nd⟩ := (show ∃ p, v = .ref p ∧ Own A W2 H2 t p ∧ (H' p = none ∨ ∃ j, Ow s' σ' j p) ∧ NoDr W2 p from h)
    refine (show ∃ p, v = .ref p ∧ Own A W2 H2 t p ∧ (H p = none ∨ ∃ j, Ow s σ j p) ∧ NoDr W2 p from ⟨p, e1, ow, ?_, nd⟩)
    rcases hn with z | ⟨j, z⟩
    · exact .inl (a.dom p z)
    · exact (a.own j p z).symm
def PostS (A : Cad) (K : PySem.W.Frag) (XE : XK) (W : Wd) (H : Hp) (s : List (Option R)) (σ : L2.St) (fl : Fl) (e' : Ev) (D : Ends) : Prop :=
  ∀ W' H' σ', EnvOk A K W' H' σ' e' → Stq W H s σ W' H' e'.s σ' → match fl with
    | .next => D.nx σ' H'
    | .brk => D.bk σ' H'
    | .cont => D.ct σ' H'
    | .ret r => ∀ v, ResS A H s σ W' H' r v → D.rt v H'
    | .exc C fs => ∀ cls d, ExOk A W' H' C fs cls d → XE cls d H'
/-- a statement's reading -/
def tS (A : Cad) (K : PySem.W.Frag) (XE : XK) (m : SM) : TS := fun D σ H =>
  ∃ W e fl e', EnvOk A K W H σ e ∧ m e = some (fl, e') ∧ PostS A K XE W H e.s σ fl e' D
theorem PS.mono {st : Stmt} {t t' : TS} (h : PS X st t) (f : ∀ D σ H, t' D σ H → t D σ H) : PS X st t' := ⟨fun pins s σ H D I q => h.run pins s σ H D I (f D σ H q)⟩
theorem PSs.mono {st : List Stmt} {t t' : TS} (h : PSs X st t) (f : ∀ D σ H, t' D σ H → t D σ H) : PSs X st t' := ⟨fun pins s σ H D I q => h.run pins s σ H D I (f D σ H q)⟩
theorem PostS.from {W W1 : Wd} {H H1 : Hp} {s s1 : List (Option R)} {σ σ1 : L2.St} {fl : Fl} {e' : Ev} {D : Ends} (S : Stq W H s σ W1 H1 s1 σ1) (hp : PostS A K XE W H s σ fl e' D) : PostS A K XE W1 H1 s1 σ1 fl e' D := by
  intro W' H' σ' E' S'
  have z := hp W' H' σ' E' (S.trans S')
  cases fl with
  | next => exact z
  | brk => exact z
  | cont => exact z
  | ret r => exact fun v h => z v (h.from S)
  | exc C fs => exact z
theorem tob_some {α : Type} {m : M α} {k : α → SM} {e e' : Ev} {fl : Fl} (h : tob m k e = some (fl, e')) :
    (∃ a e1, m e = some (.ok a, e1) ∧ k a e1 = some (fl, e')) ∨ ∃ C fs, m e = some (.exc C fs, e') ∧ fl = .exc C fs := by
  unfold tob at h
  cases q : m e with
  | none => rw [q] at h; cases h
  | some p =>
    obtain ⟨o, e1⟩ := p
    rw [q] at h
    cases o with
    | ok a => exact .inl ⟨a, e1, rfl, h⟩
    | exc C fs =>
      have h : some (Fl.exc C fs, e1) = some (fl, e') := h
      cases h
      exact .inr ⟨C, fs, rfl, rfl⟩
/-- an expression of a statement runs -/
theorem stepS {α γ : Type} {q : Bool} {Rl : Rel α γ} {m : M α} {k : α → SM} {σ : L2.St} {H : Hp} {W : Wd} {e e' : Ev} {fl : Fl} {D : Ends} {Q1 : γ → Hp → Prop} {W0 : Wd} {H0 : Hp} {s0 : List (Option R)} {σ0 : L2.St}
    (hE : EnvOk A K W H σ e) (h0 : Stq W0 H0 s0 σ0 W H e.s σ) (hm : tob m k e = some (fl, e')) (hp : PostS A K XE W0 H0 s0 σ0 fl e' D)
    (hk : ∀ a e1 W1 H1 v, k a e1 = some (fl, e') → EnvOk A K W1 H1 σ e1 → Stq W0 H0 s0 σ0 W1 H1 e1.s σ → Stp q W H e.s σ W1 H1 e1.s → Rl H e.s σ W1 H1 e1.s a v → Q1 v H1) : tM A K XE q Rl m σ H Q1 := by
  rcases tob_some hm with ⟨a, e1, h1, h2⟩ | ⟨C, fs, h1, e2⟩
  · exact ⟨W, e, .ok a, e1, hE, h1, fun W1 H1 E1 S1 v r => hk a e1 W1 H1 v h2 E1 (h0.trans S1.q) S1 r⟩
  · subst e2
    exact ⟨W, e, .exc C fs, e', hE, h1, fun W1 H1 E1 S1 cls d x => hp W1 H1 σ E1 (h0.trans S1.q) cls d x⟩
abbrev Ps (A : Cad) (K : PySem.W.Frag) (XE : XK) (C : Orc) (X : Cx) (s : Stmt) (ir : St) : Prop := PS X s (tS A K XE (st C ir))
abbrev Pss (A : Cad) (K : PySem.W.Frag) (XE : XK) (C : Orc) (X : Cx) (s : List Stmt) (ir : List St) : Prop := PSs X s (tS A K XE (sts C ir))
variable {pos p : Pos} {a b c d : Expr} {ia ib ic id : Ex}
theorem s_pass : Ps A K XE C X (.Pass pos) .pass := PS.mono ps_pass fun D σ H ⟨W, e, fl, e', E, hm, hp⟩ => by
  simp only [st, nxt] at hm
  cases hm
  exact hp W H σ E (.refl _ _ _ _)
theorem s_brk : Ps A K XE C X (.Break pos) .brk := PS.mono ps_break fun D σ H ⟨W, e, fl, e', E, hm, hp⟩ => by
  simp only [st] at hm
  cases hm
  exact hp W H σ E (.refl _ _ _ _)
theorem s_cont : Ps A K XE C X (.Continue pos) .cont := PS.mono ps_continue fun D σ H ⟨W, e, fl, e', E, hm, hp⟩ => by
  simp only [st] at hm
  cases hm
  exact hp W H σ E (.refl _ _ _ _)
theorem s_retN : Ps A K XE C X (.Return none pos) .retN := PS.mono ps_retN fun D σ H ⟨W, e, fl, e', E, hm, hp⟩ => by
  simp only [st] at hm
  cases hm
  exact hp W H σ E (.refl _ _ _ _) .non (by show Fz A W .non .non; simp only [Fz])
theorem s_ex (ha : Pe A K XE C X a ia) (hs : swapsWith a none pos.line X.env = pure false) : Ps A K XE C X (.Expr a pos) (.ex ia) := PS.mono (ps_expr ha hs) fun D σ H ⟨W, e, fl, e', E, hm, hp⟩ => by
  simp only [st] at hm
  refine stepS E (.refl _ _ _ _) hm hp fun r e1 W1 H1 v hm E1 S1 _ _ => ?_
  simp only [nxt] at hm
  cases hm
  exact hp W1 H1 σ E1 S1
theorem s_retE (hv : ia.isVar = false) (ha : Pe A K XE C X a ia) : Ps A K XE C X (.Return (some a) pos) (.ret ia) := PS.mono (ps_ret ha) fun D σ H ⟨W, e, fl, e', E, hm, hp⟩ => by
  have hm2 : tob (ev C ia) (fun r v => some (.ret r, v)) e = some (fl, e') := by
    simp only [st] at hm
    rw [← hm]
    cases ia <;> first | rfl | cases hv
  refine stepS E (.refl _ _ _ _) hm2 hp fun r e1 W1 H1 v hm E1 S1 _ rr => ?_
  cases hm
  refine hp W1 H1 σ E1 S1 v ?_
  obtain ⟨o, t⟩ := r
  cases o with
  | false => exact rr
  | true =>
    obtain ⟨p, e2, ow, hn, nd⟩ := (show ∃ p, v = .ref p ∧ Own A W1 H1 t p ∧ H p = none ∧ NoDr W1 p from rr)
    exact (show ∃ p, v = .ref p ∧ Own A W1 H1 t p ∧ (H p = none ∨ ∃ j, Ow e.s σ j p) ∧ NoDr W1 p from ⟨p, e2, ow, .inl hn, nd⟩)
theorem s_retV {i : Nat} {x : Str} (hN : X.N[i]? = some x) (hv : Vis X.env.scope x) (hd : (x == ("__debug__" : Str)) = false) (hcd : (x == ("__classdict__" : Str)) = false) :
    Ps A K XE C X (.Return (some (.Name x p)) pos) (.ret (.var i)) := PS.mono (ps_ret (pe_var hN hv hd hcd)) fun D σ H ⟨W, e, fl, e', E, hm, hp⟩ => by
  simp only [st, retV] at hm
  rcases tob_some hm with ⟨r, e1, h1, h2⟩ | ⟨_, _, h1, _⟩
  · unfold rd at h1
    split at h1
    · rename_i r' q1
      cases h1
      cases h2
      obtain ⟨v, hv, sl⟩ := E.sl i _ q1
      refine ⟨v, hv, hp W H σ E (.refl _ _ _ _) v ?_⟩
      obtain ⟨o, t⟩ := r
      cases o with
      | false => exact sl
      | true =>
        obtain ⟨p, e2, ow⟩ := (show ∃ p, v = .ref p ∧ Own A W H t p from sl)
        have w : Ow e.s σ i p := ⟨⟨t, q1⟩, by rw [hv, e2]⟩
        exact (show ∃ p, v = .ref p ∧ Own A W H t p ∧ (H p = none ∨ ∃ j, Ow e.s σ j p) ∧ NoDr W p from ⟨p, e2, ow, .inr ⟨i, w⟩, E.nd i p w⟩)
    · cases h1
  · unfold rd at h1
    split at h1 <;> cases h1
theorem s_ife {sa sb : List Stmt} {ja jb : List St} (hc : PT X c (tT A K XE ic.quiet (tsm ic (ev C ic)))) (ha : Pss A K XE C X sa ja) (hb : Pss A K XE C X sb jb) : Ps A K XE C X (.If c sa sb pos) (.ife ic ja jb) :=
  PS.mono (ps_if hc ha hb) fun D σ H ⟨W, e, fl, e', E, hm, hp⟩ => by
  simp only [st] at hm
  refine stepS E (.refl _ _ _ _) hm hp fun r e1 W1 H1 v hm E1 S1 _ rr => ?_
  obtain rfl : v = r := rr
  cases v with
  | true => exact ⟨W1, e1, fl, e', E1, hm, hp.from S1⟩
  | false => exact ⟨W1, e1, fl, e', E1, hm, hp.from S1⟩
theorem s_nil : Pss A K XE C X [] [] := PSs.mono pss_nil fun D σ H ⟨W, e, fl, e', E, hm, hp⟩ => by
  simp only [sts, nxt] at hm
  cases hm
  exact hp W H σ E (.refl _ _ _ _)
theorem s_cons {s : Stmt} {ss : List Stmt} {j : St} {js : List St} (h1 : Ps A K XE C X s j) (h2 : Pss A K XE C X ss js) : Pss A K XE C X (s :: ss) (j :: js) := PSs.mono (pss_cons h1 h2) fun D σ H ⟨W, e, fl, e', E, hm, hp⟩ => by
  simp only [sts, seqM] at hm
  cases hq : st C j e with
  | none => rw [hq] at hm; cases hm
  | some x =>
    obtain ⟨f1, e1⟩ := x
    rw [hq] at hm
    refine ⟨W, e, f1, e1, E, hq, fun W' H' σ' E' S' => ?_⟩
    cases f1 with
    | next => exact ⟨W', e1, fl, e', E', hm, hp.from S'⟩
    | brk => cases hm; exact hp W' H' σ' E' S'
    | cont => cases hm; exact hp W' H' σ' E' S'
    | ret r => cases hm; exact hp W' H' σ' E' S'
    | exc C fs => cases hm; exact hp W' H' σ' E' S'
/-! loops -/
theorem s_whl {sb : List Stmt} {jb : List St} (hpo : PassesOwn (model X.prog X.w) X.A X.env X.xe) (hc : PT X c (tT A K XE ic.quiet (tsm ic (ev C ic)))) (hb : Pss A K XE C X sb jb) : Ps A K XE C X (.While c sb [] pos) (.whl ic jb) :=
  PS.mono (ps_while hpo hc hb) fun D σ H ⟨W, e, fl, e', E, hm, hp⟩ => by
  simp only [st] at hm
  refine ⟨fun n σ1 H1 => ∃ W1 e1, EnvOk A K W1 H1 σ1 e1 ∧ whlN (tsm ic (ev C ic)) (sts C jb) n e1 = some (fl, e') ∧ Stq W H e.s σ W1 H1 e1.s σ1, ⟨turns, W, e, E, hm, .refl _ _ _ _⟩, ?_⟩
  rintro n σ1 H1 ⟨W1, e1, E1, h1, S1⟩
  cases n with
  | zero => cases h1
  | succ n =>
    unfold whlN at h1
    cases hq : tsm ic (ev C ic) e1 with
    | none => rw [hq] at h1; cases h1
    | some x =>
      obtain ⟨o, e2⟩ := x
      rw [hq] at h1
      refine ⟨W1, e1, o, e2, E1, hq, fun W2 H2 E2 S2 => ?_⟩
      cases o with
      | exc C fs =>
        cases h1
        exact fun cls d x => hp W2 H2 σ1 E2 (S1.trans S2.q) cls d x
      | ok k =>
        intro v rv
        obtain rfl : v = k := rv
        cases v with
        | false =>
          cases h1
          simp only [Bool.false_eq_true, if_false]
          exact hp W2 H2 σ1 E2 (S1.trans S2.q)
        | true =>
          simp only [if_true]
          refine ⟨_, fun σ' H' h => ⟨n, Nat.lt_succ_self n, h⟩, ?_⟩
          simp only at h1
          cases hb2 : sts C jb e2 with
          | none => rw [hb2] at h1; cases h1
          | some y =>
            obtain ⟨f2, e3⟩ := y
            rw [hb2] at h1
            refine ⟨W2, e2, f2, e3, E2, hb2, fun W3 H3 σ3 E3 S3 => ?_⟩
            have S4 := (S1.trans S2.q).trans S3
            cases f2 with
            | next => exact ⟨W3, e3, E3, h1, S4⟩
            | cont => exact ⟨W3, e3, E3, h1, S4⟩
            | brk => cases h1; exact hp W3 H3 σ3 E3 S4
            | ret r => cases h1; exact fun v rr => hp W3 H3 σ3 E3 S4 v (rr.from (S1.trans S2.q))
            | exc C fs => cases h1; exact hp W3 H3 σ3 E3 S4
end
end PB
end
section
set_option Elab.async false
set_option linter.all false
set_option maxRecDepth 100000
/-! PB19: stores. -/
namespace PB
open PySem PySem.Spec PyProof.Rows L2
section
variable {A : Cad} {K : PySem.W.Frag} {XE : XK} {C : Orc} {X : Cx}
theorem get_lt {α : Type} {l : List α} {i : Nat} {x : α} (h : l[i]? = some x) : i < l.length := by
  rcases Nat.lt_or_ge i l.length with z | z
  · exact z
  · rw [List.getElem?_eq_none z] at h; cases h
/-- a value is put into a slot -/
theorem slot_ok {W W0 : Wd} {H H0 : Hp} {σ σ0 : L2.St} {e : Ev} {s0 : List (Option R)} {i : Nat} {r : R} {v : V} (E : EnvOk A K W H σ e) (S : Stq W0 H0 s0 σ0 W H e.s σ) (hi0 : 0 < i ∧ i < e.s.length) (h : SlOk A W H r v)
    (hf : r.1 = true → ∀ p, v = .ref p → (∀ j, ¬ Ow e.s σ j p) ∧ NoDr W p ∧ ((∃ j, Ow s0 σ0 j p) ∨ H0 p = none)) :
    EnvOk A K W H (σ.set i (some v)) ⟨e.s.set i (some r), e.d⟩ ∧ Stq W0 H0 s0 σ0 W H (e.s.set i (some r)) (σ.set i (some v)) := by
  have hi := hi0.2
  have hiσ : i < σ.length := by rw [← E.len]; exact hi
  have ows : ∀ j p, Ow (e.s.set i (some r)) (σ.set i (some v)) j p → (j ≠ i ∧ Ow e.s σ j p) ∨ (j = i ∧ r.1 = true ∧ v = .ref p) := fun j p ⟨⟨t, h1⟩, h2⟩ => by
    by_cases c : i = j
    · subst c
      rw [List.getElem?_set_self hi] at h1
      rw [List.getElem?_set_self hiσ] at h2
      cases h1
      cases h2
      exact .inr ⟨rfl, rfl, rfl⟩
    · rw [List.getElem?_set_ne c] at h1 h2
      exact .inl ⟨Ne.symm c, ⟨t, h1⟩, h2⟩
  refine ⟨⟨E.le, E.dr, E.sc, by simp only [List.length_set]; exact E.len, fun j r' hj => ?_, fun j k p h1 h2 => ?_, fun j p h1 => ?_⟩, ⟨S.wle, S.keep, S.dom, S.new, fun j p h1 => ?_, S.drn, by rw [List.getElem?_set_ne (by omega)]; exact S.fx⟩⟩
  · by_cases c : i = j
    · subst c
      rw [List.getElem?_set_self hi] at hj
      cases hj
      exact ⟨v, List.getElem?_set_self hiσ, h⟩
    · rw [List.getElem?_set_ne c] at hj
      rw [List.getElem?_set_ne c]
      exact E.sl j r' hj
  · rcases ows j p h1 with ⟨a1, b1⟩ | ⟨a1, b1, c1⟩ <;> rcases ows k p h2 with ⟨a2, b2⟩ | ⟨a2, b2, c2⟩
    · exact E.dj j k p b1 b2
    · exact ((hf b2 p c2).1 j b1).elim
    · exact ((hf b1 p c1).1 k b2).elim
    · rw [a1, a2]
  · rcases ows j p h1 with ⟨a1, b1⟩ | ⟨a1, b1, c1⟩
    · exact E.nd j p b1
    · exact (hf b1 p c1).2.1
  · rcases ows j p h1 with ⟨a1, b1⟩ | ⟨a1, b1, c1⟩
    · exact S.own j p b1
    · exact (hf b1 p c1).2.2
/-- a new result's object is of no slot -/
theorem res_new {q : Bool} {W W1 : Wd} {H H1 : Hp} {σ : L2.St} {e e1 : Ev} (E : EnvOk A K W H σ e) (S : Stp q W H e.s σ W1 H1 e1.s) {r : R} {v : V} (h : Res A H W1 H1 r v) : r.1 = true → ∀ p, v = .ref p → (∀ j, ¬ Ow e1.s σ j p) ∧ NoDr W1 p ∧ H p = none := by
  intro hr p hp
  obtain ⟨o, t⟩ := r
  cases hr
  obtain ⟨p', e2, ow, hn, nd⟩ := (show ∃ p, v = .ref p ∧ Own A W1 H1 t p ∧ H p = none ∧ NoDr W1 p from h)
  rw [hp] at e2
  cases e2
  exact ⟨fun j w => E.owt j p (S.own j p w) hn, nd, hn⟩
theorem res_sl {W1 : Wd} {H H1 : Hp} {r : R} {v : V} (h : Res A H W1 H1 r v) : SlOk A W1 H1 r v := by
  obtain ⟨o, t⟩ := r
  cases o with
  | false => exact h
  | true =>
    obtain ⟨p, e2, ow, hn, nd⟩ := (show ∃ p, v = .ref p ∧ Own A W1 H1 t p ∧ H p = none ∧ NoDr W1 p from h)
    exact (show ∃ p, v = .ref p ∧ Own A W1 H1 t p from ⟨p, e2, ow⟩)
/-! names stored -/
/-- a name that is stored -/
structure NmS (X : Cx) (i : Nat) (x : Str) : Prop where
  nd : X.N.Nodup
  at_ : X.N[i]? = some x
  lc : Loc X.env.scope x
  fn : X.fn x = true ∨ X.env.scope.names.lookup x = some .local
theorem s_asgN {i : Nat} {x : Str} {px pos : Pos} {a : Expr} {ia : Ex} (h : PS X (.Assign [.Name x px] a pos) (tAsg (tE A K XE ia.quiet (ev C ia)) (gName i))) : Ps A K XE C X (.Assign [.Name x px] a pos) (.asg (.nm i) ia) :=
  PS.mono h fun D σ H ⟨W, e, fl, e', E, hm, hp⟩ => by
  simp only [st] at hm
  refine stepS E (.refl _ _ _ _) hm hp fun r e1 W1 H1 v hm E1 S1 s1 rr => ?_
  simp only [slots, asgR, Option.map_eq_some_iff] at hm
  obtain ⟨s', h1, h2⟩ := hm
  split at h1
  · rename_i hi
    cases h1
    cases h2
    have nw := res_new E s1 rr
    obtain ⟨E2, S2⟩ := slot_ok E1 S1 hi (res_sl rr) fun hr p hp => ⟨(nw hr p hp).1, (nw hr p hp).2.1, .inr (nw hr p hp).2.2⟩
    exact hp W1 H1 _ E2 S2
  · cases h1
theorem NmS.set {i : Nat} {x : Str} {px pos : Pos} {a : Expr} {te : TE} (n : NmS X i x) (ha : PE X a te) (hs : swapsWith a (some (.Name x px)) pos.line X.env = pure false) : PS X (.Assign [.Name x px] a pos) (tAsg te (gName i)) :=
  ps_set n.nd n.at_ n.lc ha hs n.fn
/-! targets -/
/-- elsewhere the state is the same -/
def SameOut (l : List Nat) (σ σ' : L2.St) : Prop := σ'.length = σ.length ∧ ∀ j, j ∉ l → σ'[j]? = σ[j]?
theorem SameOut.trans {l l' : List Nat} {σ σ' σ2 : L2.St} (a : SameOut l σ σ') (b : SameOut l' σ' σ2) : SameOut (l ++ l') σ σ2 :=
  ⟨b.1.trans a.1, fun j h => by
    rw [List.mem_append] at h
    exact (b.2 j fun z => h (.inr z)).trans (a.2 j fun z => h (.inl z))⟩
def gT (A : Cad) (K : PySem.W.Frag) (g : Tg) : TG := fun v σ H Q => ∃ W e t s', EnvOk A K W H σ e ∧ Fz A W t v ∧ bindT g t e.s = some s' ∧ ∀ σ', EnvOk A K W H σ' ⟨s', e.d⟩ → Stq W H e.s σ W H s' σ' → SameOut g.slots σ σ' → Q σ' H
def gTs (A : Cad) (K : PySem.W.Frag) (g : List Tg) : TGs := fun v σ H Q => ∃ W e t s', EnvOk A K W H σ e ∧ FzL A W t v ∧ bindTs g t e.s = some s' ∧ ∀ σ', EnvOk A K W H σ' ⟨s', e.d⟩ → Stq W H e.s σ W H s' σ' → SameOut (Tg.slotss g) σ σ' → Q σ' H
abbrev Pg (A : Cad) (K : PySem.W.Frag) (X : Cx) (e : Expr) (g : Tg) : Prop := PG X e (gT A K g)
theorem PG.mono {e : Expr} {t t' : TG} (h : PG X e t) (f : ∀ v σ H Q, t' v σ H Q → t v σ H Q) : PG X e t' := ⟨fun pins s σ H v u Q I r q => h.run pins s σ H v u Q I r (f v σ H Q q)⟩
theorem PGs.mono {e : List Expr} {t t' : TGs} (h : PGs X e t) (f : ∀ v σ H Q, t' v σ H Q → t v σ H Q) : PGs X e t' := ⟨fun pins s σ H v u Q I r q => h.run pins s σ H v u Q I r (f v σ H Q q)⟩
theorem g_nm {i : Nat} {x : Str} {px : Pos} (n : NmS X i x) : Pg A K X (.Name x px) (.nm i) := PG.mono (pg_name n.nd n.at_ n.lc n.fn) fun v σ H Q ⟨W, e, t, s', E, f, h, k⟩ => by
  simp only [bindT] at h
  split at h
  · rename_i hi
    cases h
    obtain ⟨E2, S2⟩ := slot_ok (r := (false, t)) E (.refl _ _ _ _) hi f fun hr => by cases hr
    exact k _ E2 S2 ⟨by simp, fun j hj => by simp only [Tg.slots, List.mem_singleton] at hj; rw [List.getElem?_set_ne (Ne.symm hj)]⟩
  · cases h
theorem asg_each {e : Expr} (h : noStar e = true) (es : List Expr) (env : Env) : assignEach (e :: es) env = (false, assign e env) :: assignEach es env := by
  cases e <;> first | rfl | cases h
def PgL (A : Cad) (K : PySem.W.Frag) (X : Cx) : List Expr → List Tg → Prop
  | [], [] => True
  | e :: es, g :: gs => (noStar e = true ∧ Pg A K X e g) ∧ PgL A K X es gs
  | _, _ => False
theorem PgL.run : ∀ {es : List Expr} {gs : List Tg}, PgL A K X es gs → PGs X es (gTs A K gs) ∧ es.length = gs.length ∧ (assignEach es X.env).length = gs.length ∧ (assignEach es X.env).findIdx? (·.1) = none
  | [], [], _ => ⟨PGs.mono pgs_nil fun v σ H Q ⟨W, e, t, s', E, f, h, k⟩ => by
      cases t with
      | cons _ _ => simp only [bindTs, reduceCtorEq] at h
      | nil =>
        cases v with
        | cons _ _ => simp only [FzL] at f
        | nil =>
          simp only [bindTs, Option.some.injEq] at h
          subst h
          exact ⟨rfl, k σ E (.refl _ _ _ _) ⟨rfl, fun _ _ => rfl⟩⟩, rfl, rfl, rfl⟩
  | e :: es, g :: gs, h => by
    simp only [PgL] at h
    obtain ⟨⟨h1, h2⟩, h3⟩ := h
    obtain ⟨k1, k2, k3, k4⟩ := h3.run
    refine ⟨?_, by simp only [List.length_cons, k2], by rw [asg_each h1]; simp only [List.length_cons, k3], ?_⟩
    · refine PGs.mono (pgs_cons h2 k1 (by rw [asg_each h1]; rfl)) fun v σ H Q ⟨W, e0, t, s', E, f, h, k⟩ => ?_
      cases t with
      | nil => simp only [bindTs, reduceCtorEq] at h
      | cons t ts =>
        cases v with
        | nil => simp only [FzL] at f
        | cons v vs =>
          simp only [FzL] at f
          simp only [bindTs] at h
          cases hb : bindT g t e0.s with
          | none => rw [hb] at h; cases h
          | some s1 =>
            rw [hb] at h
            refine ⟨v, vs, rfl, W, e0, t, s1, E, f.1, hb, fun σ1 E1 S1 O1 => ⟨W, _, ts, s', E1, f.2, h, fun σ2 E2 S2 O2 => k σ2 E2 (S1.trans S2) (by simp only [Tg.slotss]; exact O1.trans O2)⟩⟩
    · rw [asg_each h1, List.findIdx?_cons]
      simp only [Bool.false_eq_true, if_false, k4, Option.map_none]
  | [], _ :: _, h => by simp only [PgL] at h
  | _ :: _, [], h => by simp only [PgL] at h
theorem fzL_len {W : Wd} {ts : List T} {vs : List V} (h : FzL A W ts vs) : vs.length = ts.length := h.len.symm
theorem g_tp {es : List Expr} {gs : List Tg} {k : Nat} {pos : Pos} (hc : X.calm = true) (hK : X.K = K) (h : PgL A K X es gs) : Pg A K X (.Tuple es k pos) (.tp gs) := by
  obtain ⟨k1, k2, k3, k4⟩ := h.run
  refine ⟨fun pins s σ H v u Q I r hw => ?_⟩
  obtain ⟨W, e, t, s', E, f, hb, kk⟩ := hw
  cases t <;> simp only [bindT, reduceCtorEq] at hb
  · split at hb
    · rename_i hl
      obtain ⟨a, vs, z1, z2, z3⟩ := rv_lst E (.inl f)
      refine (pg_unl hc k1 k3 k4).run pins s σ H v u Q I r ?_
      exact ⟨a, vs, z1, .inl (.inl z2), by rw [fzL_len z3, hl], W, e, _, s', E, z3, hb, fun σ' E' S' O' => kk σ' E' S' (by simp only [Tg.slots]; exact O')⟩
    · cases hb
  · split at hb
    · rename_i hl
      obtain ⟨a, vs, z1, z2, z3, _⟩ := rv_tup E (.inl f)
      refine (pg_tup hc k1 k3 k4).run pins s σ H v u Q I r ?_
      exact ⟨a, vs, z1, .inl (.inl z2), by rw [fzL_len z3, hl], W, e, _, s', E, z3, hb, fun σ' E' S' O' => kk σ' E' S' (by simp only [Tg.slots]; exact O')⟩
    · cases hb
theorem sw_tup {a : Expr} {es : List Expr} {k : Nat} {p pos : Pos} : swapsWithSole [.Tuple es k p] a pos.line X.env = pure false := by
  cases a <;> rfl
def isTup : Expr → Bool
  | .Tuple _ _ _ => true
  | _ => false
theorem sw_st {a : Expr} {es : List Expr} {k : Nat} {p : Pos} (h : isTup a = false) : swappedStores [.Tuple es k p] a X.env = pure none := by
  cases a <;> first | rfl | cases h
theorem s_asgT {es : List Expr} {gs : List Tg} {k : Nat} {px pos : Pos} {a : Expr} {ia : Ex} (ht : isTup a = false) (ha : Pe A K XE C X a ia) (hg : Pg A K X (.Tuple es k px) (.tp gs)) : Ps A K XE C X (.Assign [.Tuple es k px] a pos) (.asg (.tp gs) ia) :=
  PS.mono (ps_asg ha hg sw_tup (sw_st ht) rfl) fun D σ H ⟨W, e, fl, e', E, hm, hp⟩ => by
  simp only [st] at hm
  refine stepS E (.refl _ _ _ _) hm hp fun r e1 W1 H1 v hm E1 S1 s1 rr => ?_
  simp only [slots, asgR, Option.map_eq_some_iff] at hm
  obtain ⟨s', h1, h2⟩ := hm
  cases h2
  obtain ⟨W2, E2, S2, f2, l2⟩ := res_fz E1 s1 (fun i a w => E.owt i a w) (fun _ z => z) rr
  exact ⟨W2, e1, r.2, s', E2, f2, h1, fun σ' E3 S3 _ => hp W2 H1 σ' E3 (S2.q.trans S3)⟩
end
end PB
end
section
set_option Elab.async false
set_option linter.all false
set_option maxRecDepth 100000
/-! PB20: several names at once; items, fields; raise. -/
namespace PB
open PySem PySem.Spec PyProof.Rows L2
section
variable {A : Cad} {K : PySem.W.Frag} {XE : XK} {C : Orc} {X : Cx} {pos p : Pos} {a b c d : Expr} {ia ib ic id : Ex}
/-- an object of no slot stays its holder's -/
theorem own_keep {q : Bool} {W W' : Wd} {H H' : Hp} {σ σ' : L2.St} {s s' : List (Option R)} {e' : Ev} (E' : EnvOk A K W' H' σ' e') (S : Stp q W H s σ W' H' s') {t : T} {p : Addr} (ow : Own A W H t p) (n : ∀ i, ¬ Ow s σ i p) (nd : NoDr W p) : Own A W' H' t p := by
  obtain ⟨g, o, ho, r⟩ := ow
  have h' := S.keep p o ho (.inr n) nd
  refine ⟨?_, o, h', r.mono A S.wle⟩
  cases z : W'.G p with
  | none => rfl
  | some o' =>
    exfalso
    rcases S.new p o' z with w | ⟨i, w⟩ | w | ⟨vs, w⟩
    · rw [g] at w; cases w
    · exact n i w
    · rw [ho] at w; cases w
    · subst w
      have w := E'.at_ z rfl
      rw [h'] at w
      cases w
      cases t <;> simp only [OwnO] at r
      · obtain ⟨_, e1, _⟩ := r; cases e1
      · obtain ⟨_, e1, _⟩ := r; cases e1
      · obtain ⟨_, e1, _⟩ := r; cases e1
      · obtain ⟨_, _, e1, _⟩ := r; cases e1
theorem res_keep {q : Bool} {W W' : Wd} {H0 H H' : Hp} {σ σ' : L2.St} {s s' : List (Option R)} {e' : Ev} (E' : EnvOk A K W' H' σ' e') (S : Stp q W H s σ W' H' s') {r : R} {v : V} (h : Res A H0 W H r v) (n : r.1 = true → ∀ p, v = .ref p → ∀ i, ¬ Ow s σ i p) : Res A H0 W' H' r v := by
  obtain ⟨o, t⟩ := r
  cases o with
  | false => exact Fz.mono A S.wle h
  | true =>
    obtain ⟨p, e1, ow, hn, nd⟩ := (show ∃ p, v = .ref p ∧ Own A W H t p ∧ H0 p = none ∧ NoDr W p from h)
    refine (show ∃ p, v = .ref p ∧ Own A W' H' t p ∧ H0 p = none ∧ NoDr W' p from ⟨p, e1, own_keep E' S ow (n rfl p e1) nd, hn, S.nodr ?_ nd⟩)
    obtain ⟨_, o, ho, _⟩ := ow
    rw [ho]; simp
/-- results side by side -/
def RsL (A : Cad) (H : Hp) (W' : Wd) (H' : Hp) : List R → List V → Prop
  | [], [] => True
  | r :: rs, v :: vs => Res A H W' H' r v ∧ (r.1 = true → ∀ r' v', (r', v') ∈ rs.zip vs → r'.1 = true → v' ≠ v) ∧ RsL A H W' H' rs vs
  | _, _ => False
def rP (A : Cad) : Rel (List R) (List V) := fun H _ _ W' H' _ rs vs => RsL A H W' H' rs vs
theorem RsL.weak {W' : Wd} {H H0 H' : Hp} (hd : ∀ p, H p = none → H0 p = none) : ∀ {rs : List R} {vs : List V}, RsL A H W' H' rs vs → RsL A H0 W' H' rs vs
  | [], [], _ => trivial
  | r :: rs, v :: vs, h => by
    obtain ⟨h1, h2, h3⟩ := h
    refine ⟨?_, h2, h3.weak hd⟩
    obtain ⟨o, t⟩ := r
    cases o with
    | false => exact h1
    | true =>
      obtain ⟨p, e1, ow, hn, nd⟩ := (show ∃ p, v = .ref p ∧ Own A W' H' t p ∧ H p = none ∧ NoDr W' p from h1)
      exact (show ∃ p, v = .ref p ∧ Own A W' H' t p ∧ H0 p = none ∧ NoDr W' p from ⟨p, e1, ow, hd p hn, nd⟩)
  | [], _ :: _, h => h.elim
  | _ :: _, [], h => h.elim
theorem RsL.mem {W' : Wd} {H H' : Hp} : ∀ {rs : List R} {vs : List V}, RsL A H W' H' rs vs → ∀ {r : R} {v : V}, (r, v) ∈ rs.zip vs → Res A H W' H' r v
  | [], [], _, _, _, h => by cases h
  | r0 :: rs, v0 :: vs, h, r, v, hm => by
    obtain ⟨h1, h2, h3⟩ := h
    rw [List.zip_cons_cons, List.mem_cons] at hm
    rcases hm with z | z
    · cases z; exact h1
    · exact h3.mem z
  | [], _ :: _, h, _, _, _ => h.elim
  | _ :: _, [], h, _, _, _ => h.elim
theorem a_evP : ∀ {es : List Expr} {is : List Ex}, PeL A K XE C X es is → PA X es (tM A K XE (Ex.quiets is) (rP A) (evP C is))
  | [], [], _ => PA.mono pa_nil fun σ H Q hh => by
    obtain ⟨W, e, out, e', E, hm, hp⟩ := hh
    simp only [evP, ret, Option.some.injEq, Prod.mk.injEq] at hm
    obtain ⟨h1, h2⟩ := hm
    subst h1 h2
    exact hp W H E (.refl _ W H _ σ) _ trivial
  | e :: es, i :: is, h => by
    simp only [PeL] at h
    obtain ⟨⟨h1, h2, _⟩, h3⟩ := h
    refine PA.mono (pa_cons h2 (a_evP h3) (star_ok h1 es _)) fun σ H Q hh => ?_
    obtain ⟨W, e0, out, e', E, hm, hp⟩ := hh
    simp only [evP] at hm
    refine step E (.refl _ W H e0.s σ) hm hp (fun z => (qs_cons z).1) fun r e1 W1 H1 v1 hm E1 S1 s1 r1 => ?_
    refine step E1 S1 hm hp (fun z => (qs_cons z).2) fun ts e3 W3 H3 vs hm E3 S3 s3 r3 => ?_
    simp only [ret, Option.some.injEq, Prod.mk.injEq] at hm
    obtain ⟨z1, z2⟩ := hm
    subst z1 z2
    have nw := res_new E s1 r1
    refine hp W3 H3 E3 S3 _ ⟨res_keep E3 s3 r1 fun hr p hp => (nw hr p hp).1, fun hr r' v' hm hr' e4 => ?_, RsL.weak (fun p z => S1.dom p z) r3⟩
    have z := RsL.mem r3 hm
    obtain ⟨o', t'⟩ := r'
    cases hr'
    obtain ⟨p', e5, _, hn, _⟩ := (show ∃ p, v' = .ref p ∧ Own A W3 H3 t' p ∧ H1 p = none ∧ NoDr W3 p from z)
    obtain ⟨o, t⟩ := r
    cases hr
    obtain ⟨p, e6, ⟨_, o, ho, _⟩, _⟩ := (show ∃ p, v1 = .ref p ∧ Own A W1 H1 t p ∧ H p = none ∧ NoDr W1 p from r1)
    rw [e5, e6] at e4
    cases e4
    rw [hn] at ho
    cases ho
  | [], _ :: _, h => by simp only [PeL] at h
  | _ :: _, [], h => by simp only [PeL] at h
def setV : List Nat → List V → L2.St → L2.St
  | i :: is, v :: vs, σ => setV is vs (σ.set i (some v))
  | _, _, σ => σ
theorem setAll_ok {W W0 : Wd} {H H0 : Hp} {σ0 : L2.St} {s0 : List (Option R)} {d : Option Draw} (hd : ∀ p, H p = none → H0 p = none) : ∀ {is : List Nat} {rs : List R} {vs : List V} {s s' : List (Option R)} {σ : L2.St}, EnvOk A K W H σ ⟨s, d⟩ → Stq W0 H0 s0 σ0 W H s σ → RsL A H0 W H rs vs →
    (∀ r v p, (r, v) ∈ rs.zip vs → r.1 = true → v = .ref p → ∀ j, ¬ Ow s σ j p) → setAll is rs s = some s' → EnvOk A K W H (setV is vs σ) ⟨s', d⟩ ∧ Stq W0 H0 s0 σ0 W H s' (setV is vs σ)
  | [], [], [], s, s', σ, E, S, _, _, h => by
    simp only [setAll, Option.some.injEq] at h
    subst h
    exact ⟨E, S⟩
  | i :: is, r :: rs, v :: vs, s, s', σ, E, S, R0, n, h => by
    simp only [setAll] at h
    split at h
    · rename_i hi
      obtain ⟨h1, h2, h3⟩ := R0
      have own : r.1 = true → ∀ p, v = .ref p → (∀ j, ¬ Ow s σ j p) ∧ NoDr W p ∧ ((∃ j, Ow s0 σ0 j p) ∨ H0 p = none) := fun hr p hp => by
        refine ⟨n r v p (by simp) hr hp, ?_⟩
        obtain ⟨o, t⟩ := r
        cases hr
        obtain ⟨p', e6, ow, hn, nd⟩ := (show ∃ p, v = .ref p ∧ Own A W H t p ∧ H0 p = none ∧ NoDr W p from h1)
        rw [hp] at e6
        cases e6
        exact ⟨nd, .inr hn⟩
      obtain ⟨E2, S2⟩ := slot_ok E S hi (res_sl h1) own
      have z := setAll_ok (is := is) (rs := rs) (vs := vs) (s := s.set i (some r)) (σ := σ.set i (some v)) hd E2 S2 h3 (fun r' v' p hm hr hp j w => ?_) h
      · exact z
      obtain ⟨⟨t, w1⟩, w2⟩ := w
      by_cases c : i = j
      · subst c
        rw [List.getElem?_set_self hi.2] at w1
        rw [List.getElem?_set_self (by rw [← E.len]; exact hi.2)] at w2
        cases w1
        cases w2
        exact h2 rfl r' v' hm hr hp
      · rw [List.getElem?_set_ne c] at w1 w2
        exact n r' v' p (by simp [hm]) hr hp j ⟨⟨t, w1⟩, w2⟩
    · cases h
  | [], [], _ :: _, _, _, _, _, _, h, _, _ => h.elim
  | [], _ :: _, _, _, _, _, _, _, _, _, h => by simp only [setAll, reduceCtorEq] at h
  | _ :: _, [], _, _, _, _, _, _, _, _, h => by simp only [setAll, reduceCtorEq] at h
  | _ :: _, _ :: _, [], _, _, _, _, _, h, _, _ => h.elim
/-- the names that are stored -/
def NmL (X : Cx) : List Nat → List Expr → Prop
  | [], [] => True
  | i :: is, e :: es => (∃ x p, e = .Name x p ∧ NmS X i x) ∧ NmL X is es
  | _, _ => False
theorem NmL.run : ∀ {is : List Nat} {es : List Expr}, NmL X is es → PGs X es (fun vs σ H Q => vs.length = is.length ∧ Q (setV is vs σ) H) ∧ (assignEach es X.env).length = is.length ∧ (assignEach es X.env).findIdx? (·.1) = none ∧ es.length = is.length
  | [], [], _ => ⟨PGs.mono pgs_nil fun v σ H Q ⟨h1, h2⟩ => by
      cases v with
      | nil => exact ⟨rfl, h2⟩
      | cons _ _ => (cases h1), rfl, rfl, rfl⟩
  | i :: is, e :: es, h => by
    obtain ⟨⟨x, p, e1, n⟩, h3⟩ := h
    subst e1
    obtain ⟨k1, k2, k3, k4⟩ := h3.run
    refine ⟨PGs.mono (pgs_cons (pg_name n.nd n.at_ n.lc n.fn) k1 (by rw [asg_each rfl]; rfl)) fun v σ H Q ⟨h1, h2⟩ => ?_, by rw [asg_each rfl]; simp only [List.length_cons, k2], ?_, by simp only [List.length_cons, k4]⟩
    · cases v with
      | nil => cases h1
      | cons v vs => exact ⟨v, vs, rfl, by simpa using h1, h2⟩
    · rw [asg_each rfl, List.findIdx?_cons]
      simp only [Bool.false_eq_true, if_false, k3, Option.map_none]
  | [], _ :: _, h => h.elim
  | _ :: _, [], h => h.elim
theorem sw_some {ts vs : List Expr} {k k2 : Nat} {p p2 : Pos} {r : Option (List Str)} (hk : X.env.scope.kind = .function) (h : swS X.env.scope ts vs = some r) : swappedStores [.Tuple ts k p] (.Tuple vs k2 p2) X.env = pure r := by
  have hb : (X.env.blockKind != .function) = false := by unfold Env.blockKind; rw [hk]; rfl
  unfold swS at h
  unfold swappedStores
  simp only [hb, Bool.or_false]
  have hkind : ∀ x, X.env.kindOf x = X.env.scope.names.lookup x := fun _ => rfl
  simp only [hkind]
  dsimp only at h ⊢
  split at h
  · rename_i c
    refine Eq.trans (if_pos c) ?_
    cases h; rfl
  rename_i c
  refine Eq.trans (if_neg c) ?_
  split at h
  · rename_i c2
    refine Eq.trans (if_pos c2) ?_
    cases h; rfl
  rename_i c2
  refine Eq.trans (if_neg c2) ?_
  split at h
  · rename_i c3
    refine Eq.trans (if_pos c3) ?_
    cases h; rfl
  rename_i c3
  refine Eq.trans (if_neg c3) ?_
  split at h
  · rename_i c4
    refine Eq.trans (if_pos c4) ?_
    cases h; rfl
  rename_i c4
  refine Eq.trans (if_neg c4) ?_
  split at h
  · cases h
  rename_i c5
  refine Eq.trans (if_neg c5) ?_
  cases h; rfl
theorem sw_names {ts vs : List Expr} {ns : List Str} (h : swS X.env.scope ts vs = some (some ns)) : (ts.length = 2 ∨ ts.length = 3) ∧ vs.length = ts.length ∧ ns = ts.filterMap (fun
    | .Name id pos => if X.env.scope.names.lookup id == some .local && pos.line == (ts.head?.map (·.pos.line)).getD 0 then some id else none
    | _ => none) ∧ ns.length = ts.length ∧ ns.eraseDups.length = ns.length := by
  unfold swS at h
  split at h
  · cases h
  rename_i c
  split at h
  · cases h
  simp only at h
  split at h
  · cases h
  rename_i c3
  split at h
  · cases h
  split at h
  · cases h
  simp only [Option.some.injEq] at h
  simp only [Bool.or_eq_true, Bool.not_eq_true', bne_iff_ne, ne_eq, not_or, Bool.not_eq_false, beq_iff_eq, Classical.not_not] at c c3
  exact ⟨c.1, c.2, h.symm, by rw [← h]; exact c3.1, by rw [← h]; exact c3.2⟩
theorem par_end {W : Wd} {H : Hp} {σ : L2.St} {e e1 e' : Ev} {fl : Fl} {D : Ends} {W1 : Wd} {H1 H2 : Hp} {q : Bool} {is : List Nat} {rs : List R} {vs : List V} (E : EnvOk A K W H σ e) (hp : PostS A K XE W H e.s σ fl e' D) (hm : slots (setAll is rs) e1 = some (fl, e'))
    (E1 : EnvOk A K W1 H1 σ e1) (s1 : Stp q W H e.s σ W1 H1 e1.s) (r1 : RsL A H W1 H1 rs vs) (ex : ∀ a o, H1 a = some o → H2 a = some o) : D.nx (setV is vs σ) H2 := by
  simp only [slots, Option.map_eq_some_iff] at hm
  obtain ⟨s', h1, h2⟩ := hm
  cases h2
  obtain ⟨E2, S2⟩ := setAll_ok (d := e1.d) (fun p z => s1.dom p z) (s := e1.s) E1 s1.q r1 (fun r v p hm hr hp j w => by
    have z := r1.mem hm
    exact (res_new E s1 z hr p hp).1 j w) h1
  refine hp W1 H2 _ (E2.ext ex) ⟨S2.wle, fun a o h n d => ex _ _ (S2.keep a o h n d), fun a h => S2.dom a ?_, S2.new, S2.own, S2.drn, S2.fx⟩
  cases y : H1 a with
  | none => rfl
  | some o => rw [ex a o y] at h; cases h
theorem RsL.len {W' : Wd} {H H' : Hp} : ∀ {rs : List R} {vs : List V}, RsL A H W' H' rs vs → vs.length = rs.length
  | [], [], _ => rfl
  | _ :: rs, _ :: vs, h => by simp only [List.length_cons, RsL.len h.2.2]
  | [], _ :: _, h => h.elim
  | _ :: _, [], h => h.elim
theorem evP_len {C : Orc} : ∀ {is : List Ex} {e e' : Ev} {rs : List R}, evP C is e = some (.ok rs, e') → rs.length = is.length
  | [], e, e', rs, h => by
    simp only [evP, ret, Option.some.injEq, Prod.mk.injEq, Out.ok.injEq] at h
    rw [← h.1]; rfl
  | i :: is, e, e', rs, h => by
    simp only [evP] at h
    rcases bnd_some h with ⟨r, e1, h1, h2⟩ | ⟨_, _, _, h2⟩
    · rcases bnd_some h2 with ⟨rs', e2, h3, h4⟩ | ⟨_, _, _, h4⟩
      · simp only [ret, Option.some.injEq, Prod.mk.injEq, Out.ok.injEq] at h4
        rw [← h4.1, List.length_cons, evP_len h3, List.length_cons]
      · cases h4
    · cases h2
theorem setAll_len : ∀ {is : List Nat} {rs : List R} {s s' : List (Option R)}, setAll is rs s = some s' → is.length = rs.length
  | [], [], _, _, _ => rfl
  | i :: is, r :: rs, s, s', h => by
    simp only [setAll] at h
    split at h
    · simp only [List.length_cons, setAll_len h]
    · cases h
  | [], _ :: _, _, _, h => by simp only [setAll, reduceCtorEq] at h
  | _ :: _, [], _, _, h => by simp only [setAll, reduceCtorEq] at h
theorem s_par {is : List Nat} {ts vs : List Expr} {js : List Ex} {k k2 : Nat} {p2 pos : Pos} {r : Option (List Str)} (hc : X.calm = true) (hK : X.K = K) (hk : X.env.scope.kind = .function) (hnd : is.Nodup) (hn : NmL X is ts) (hsw : swS X.env.scope ts vs = some r) (ha : PeL A K XE C X vs js) (hle : js.length ≤ 64) :
    Ps A K XE C X (.Assign [.Tuple ts k p] (.Tuple vs k2 p2) pos) (.par is js) := by
  obtain ⟨k1, k2', k3, k4⟩ := hn.run
  cases r with
  | none =>
    refine PS.mono (ps_asg (pe_tup (a_evP ha)) (pg_tup hc k1 k2' k3) sw_tup (sw_some hk hsw) rfl) fun D σ H ⟨W, e, fl, e', E, hm, hp⟩ => ?_
    simp only [st] at hm
    have hlen := tob_some hm
    refine stepS E (.refl _ _ _ _) hm hp fun rs e1 W1 H1 v hm E1 S1 s1 r1 => ?_
    have r1 : RsL A H W1 H1 rs v := r1
    have l1 : rs.length = is.length := by
      simp only [slots, Option.map_eq_some_iff] at hm
      obtain ⟨s', h1, _⟩ := hm
      exact (setAll_len h1).symm
    have l2 : is.length = js.length := by
      rcases hlen with ⟨a, e2, h1, h2⟩ | ⟨_, _, h1, h2⟩
      · simp only [slots, Option.map_eq_some_iff] at h2
        obtain ⟨s', h3, _⟩ := h2
        rw [setAll_len h3, evP_len h1]
      · subst h2
        simp only [slots, Option.map_eq_some_iff] at hm
        obtain ⟨_, _, h3⟩ := hm
        cases h3
    refine ⟨by rw [r1.len, l1, l2, sizeLine_eq]; omega, fun p' hp' => ⟨p', v, rfl, .inl (.inl upd_same), by rw [r1.len, l1], by rw [r1.len, l1], ?_⟩⟩
    exact par_end E hp hm E1 s1 r1 (upd_ext hp')
  | some ns =>
    obtain ⟨h1, h2, h3, h4, h5⟩ := sw_names hsw
    have hst := sw_some (k := k) (p := p) (k2 := k2) (p2 := p2) hk hsw
    have fin : ∀ D σ H, tS A K XE (st C (.par is js)) D σ H → tM A K XE (Ex.quiets js) (rP A) (evP C js) σ H fun vs H1 => vs.length = is.length ∧ D.nx (setV is vs σ) H1 := fun D σ H ⟨W, e, fl, e', E, hm, hp⟩ => by
      simp only [st] at hm
      refine stepS E (.refl _ _ _ _) hm hp fun rs e1 W1 H1 v hm E1 S1 s1 r1 => ?_
      have r1 : RsL A H W1 H1 rs v := r1
      refine ⟨?_, par_end E hp hm E1 s1 r1 fun a o h => h⟩
      simp only [slots, Option.map_eq_some_iff] at hm
      obtain ⟨s', h1, _⟩ := hm
      rw [r1.len, setAll_len h1]
    rcases h1 with h1 | h1
    · -- two
      match ts, vs, is, h1, h2, k4, hn, h3, hst, ha, hnd with
      | [t1, t2], [v1, v2], [i, j], _, _, _, hn, h3, hst, ha, hnd =>
        obtain ⟨⟨x, px, e1, n1⟩, ⟨y, py, e2, n2⟩, _⟩ := hn
        subst e1 e2
        have hij : i ≠ j := by simp at hnd; exact hnd
        have hl : X.env.scope.names.lookup x = some .local ∧ X.env.scope.names.lookup y = some .local ∧ ns = [x, y] := by
          rw [h3] at h4
          simp only [List.filterMap_cons, List.filterMap_nil] at h3 h4
          split at h4 <;> rename_i c1
          · split at h4 <;> simp at h4
          · split at h4 <;> rename_i c2
            · simp at h4
            · simp only [Option.ite_none_right_eq_some, Bool.and_eq_true, beq_iff_eq, Option.some.injEq] at c1 c2
              simp only [h3]
              refine ⟨c1.1.1, c2.1.1, ?_⟩
              rw [if_pos (by simp [c1.1]), if_pos (by simp [c2.1])]
        obtain ⟨hx, hy, hns⟩ := hl
        subst hns
        refine PS.mono (ps_par hc n1.nd n1.at_ n2.at_ hij hx hy (a_evP ha) hst sw_tup) fun D σ H h => ?_
        obtain ⟨W, e, out, e', E, hm, hp⟩ := fin D σ H h
        refine ⟨W, e, out, e', E, hm, fun W' H' E' S' => ?_⟩
        have z := hp W' H' E' S'
        cases out with
        | exc c f => exact z
        | ok rs =>
          intro v rv
          obtain ⟨l, q⟩ := z v rv
          match v, l with
          | [a1, a2], _ => exact ⟨a1, a2, rfl, q⟩
    · -- three
      match ts, vs, is, h1, h2, k4, hn, h3, hst, ha, hnd with
      | [t1, t2, t3], [v1, v2, v3], [i, j, l], _, _, _, hn, h3, hst, ha, hnd =>
        obtain ⟨⟨x, px, e1, n1⟩, ⟨y, py, e2, n2⟩, ⟨z, pz, e3, n3⟩, _⟩ := hn
        subst e1 e2 e3
        have hij : i ≠ j ∧ i ≠ l ∧ j ≠ l := by simp at hnd; exact ⟨hnd.1.1, hnd.1.2, hnd.2⟩
        have hl : X.env.scope.names.lookup x = some .local ∧ X.env.scope.names.lookup y = some .local ∧ X.env.scope.names.lookup z = some .local ∧ ns = [x, y, z] := by
          rw [h3] at h4
          simp only [List.filterMap_cons, List.filterMap_nil] at h3 h4
          split at h4 <;> rename_i c1
          · split at h4
            · split at h4 <;> simp at h4
            · split at h4 <;> simp at h4
          · split at h4 <;> rename_i c2
            · split at h4 <;> simp at h4
            · split at h4 <;> rename_i c3
              · simp at h4
              · simp only [Option.ite_none_right_eq_some, Bool.and_eq_true, beq_iff_eq, Option.some.injEq] at c1 c2 c3
                simp only [h3]
                refine ⟨c1.1.1, c2.1.1, c3.1.1, ?_⟩
                rw [if_pos (by simp [c1.1]), if_pos (by simp [c2.1]), if_pos (by simp [c3.1])]
        obtain ⟨hx, hy, hz, hns⟩ := hl
        subst hns
        refine PS.mono (ps_par3 hc n1.nd n1.at_ n2.at_ n3.at_ hij.1 hij.2.1 hij.2.2 hx hy hz (a_evP ha) hst sw_tup) fun D σ H h => ?_
        obtain ⟨W, e, out, e', E, hm, hp⟩ := fin D σ H h
        refine ⟨W, e, out, e', E, hm, fun W' H' E' S' => ?_⟩
        have z := hp W' H' E' S'
        cases out with
        | exc c f => exact z
        | ok rs =>
          intro v rv
          obtain ⟨l, q⟩ := z v rv
          match v, l with
          | [a1, a2, a3], _ => exact ⟨a1, a2, a3, rfl, q⟩
end
end PB
end
section
set_option Elab.async false
set_option linter.all false
set_option maxRecDepth 100000
/-! PB21: items and fields written; raise. -/
namespace PB
open PySem PySem.Spec PyProof.Rows L2
section
variable {A : Cad} {K : PySem.W.Frag} {XE : XK} {C : Orc} {X : Cx} {pos p : Pos} {a b c d : Expr} {ia ib ic id : Ex}
theorem anyK_fz {W : Wd} (k : Key) : ∀ {kvs : List (Key × T)} {ws : List (Key × V)}, FzK A W kvs ws → (kvs.any fun p => decide (p.1 = k)) = (ws.any fun p => decide (p.1 = k)) ∧ kvs.length = ws.length
  | [], [], _ => ⟨rfl, rfl⟩
  | (k1, t) :: ts, (k2, v) :: vs, f => by
    simp only [FzK] at f
    obtain ⟨e1, _, f2⟩ := f
    subst e1
    obtain ⟨h1, h2⟩ := anyK_fz k f2
    simp only [List.any_cons, h1, List.length_cons, h2, and_self]
  | [], _ :: _, f => by simp only [FzK] at f
  | _ :: _, [], f => by simp only [FzK] at f
theorem mapK_fz {W : Wd} (k : Key) {t : T} {v : V} (h : Fz A W t v) : ∀ {kvs : List (Key × T)} {ws : List (Key × V)}, FzK A W kvs ws → FzK A W (kvs.map fun p => if p.1 = k then (p.1, t) else p) (ws.map fun p => if p.1 = k then (p.1, v) else p)
  | [], [], _ => by simp only [List.map_nil, FzK]
  | (k1, t) :: ts, (k2, v) :: vs, f => by
    simp only [FzK] at f
    obtain ⟨e1, f1, f2⟩ := f
    subst e1
    simp only [List.map_cons]
    by_cases c : k1 = k
    · rw [if_pos c, if_pos c]
      simp only [FzK]
      exact ⟨trivial, h, mapK_fz k h f2⟩
    · rw [if_neg c, if_neg c]
      simp only [FzK]
      exact ⟨trivial, f1, mapK_fz k h f2⟩
  | [], _ :: _, f => by simp only [FzK] at f
  | _ :: _, [], f => by simp only [FzK] at f
theorem appK_fz {W : Wd} : ∀ {kvs us : List (Key × T)} {ws xs : List (Key × V)}, FzK A W kvs ws → FzK A W us xs → FzK A W (kvs ++ us) (ws ++ xs)
  | [], _, [], _, _, h => h
  | (k1, t) :: ts, _, (k2, v) :: vs, _, f, h => by
    simp only [FzK, List.cons_append] at f ⊢
    exact ⟨f.1, f.2.1, appK_fz f.2.2 h⟩
  | [], _, _ :: _, _, f, _ => by simp only [FzK] at f
  | _ :: _, _, [], _, f, _ => by simp only [FzK] at f
theorem putK_fz {W : Wd} {k : Key} {t : T} {v : V} (h : Fz A W t v) {kvs : List (Key × T)} {ws : List (Key × V)} (f : FzK A W kvs ws) : FzK A W (putT kvs k t) (putK ws k v) := by
  unfold putT putK
  rw [(anyK_fz k f).1]
  split
  · exact mapK_fz k h f
  · exact appK_fz f (by simp only [FzK]; exact ⟨trivial, h, trivial⟩)
theorem anyT_fz {W : Wd} (k : List Key) : ∀ {kvs : List (List Key × T)} {ws : List (List Key × V)}, FzT A W kvs ws → (kvs.any fun p => decide (p.1 = k)) = (ws.any fun p => decide (p.1 = k)) ∧ kvs.length = ws.length
  | [], [], _ => ⟨rfl, rfl⟩
  | (k1, t) :: ts, (k2, v) :: vs, f => by
    simp only [FzT] at f
    obtain ⟨e1, _, f2⟩ := f
    subst e1
    obtain ⟨h1, h2⟩ := anyT_fz k f2
    simp only [List.any_cons, h1, List.length_cons, h2, and_self]
  | [], _ :: _, f => by simp only [FzT] at f
  | _ :: _, [], f => by simp only [FzT] at f
theorem mapT_fz {W : Wd} (k : List Key) {t : T} {v : V} (h : Fz A W t v) : ∀ {kvs : List (List Key × T)} {ws : List (List Key × V)}, FzT A W kvs ws → FzT A W (kvs.map fun p => if p.1 = k then (p.1, t) else p) (ws.map fun p => if p.1 = k then (p.1, v) else p)
  | [], [], _ => by simp only [List.map_nil, FzT]
  | (k1, t) :: ts, (k2, v) :: vs, f => by
    simp only [FzT] at f
    obtain ⟨e1, f1, f2⟩ := f
    subst e1
    simp only [List.map_cons]
    by_cases c : k1 = k
    · rw [if_pos c, if_pos c]
      simp only [FzT]
      exact ⟨trivial, h, mapT_fz k h f2⟩
    · rw [if_neg c, if_neg c]
      simp only [FzT]
      exact ⟨trivial, f1, mapT_fz k h f2⟩
  | [], _ :: _, f => by simp only [FzT] at f
  | _ :: _, [], f => by simp only [FzT] at f
theorem appT_fz {W : Wd} : ∀ {kvs us : List (List Key × T)} {ws xs : List (List Key × V)}, FzT A W kvs ws → FzT A W us xs → FzT A W (kvs ++ us) (ws ++ xs)
  | [], _, [], _, _, h => h
  | (k1, t) :: ts, _, (k2, v) :: vs, _, f, h => by
    simp only [FzT, List.cons_append] at f ⊢
    exact ⟨f.1, f.2.1, appT_fz f.2.2 h⟩
  | [], _, _ :: _, _, f, _ => by simp only [FzT] at f
  | _ :: _, _, [], _, f, _ => by simp only [FzT] at f
theorem putTT_fz {W : Wd} {k : List Key} {t : T} {v : V} (h : Fz A W t v) {kvs : List (List Key × T)} {ws : List (List Key × V)} (f : FzT A W kvs ws) : FzT A W (putT kvs k t) (putK ws k v) := by
  unfold putT putK
  rw [(anyT_fz k f).1]
  split
  · exact mapT_fz k h f
  · exact appT_fz f (by simp only [FzT]; exact ⟨trivial, h, trivial⟩)
theorem putF_fz {W : Wd} {f : Str} {t : T} {v : V} (h : Fz A W t v) : ∀ {fs : List (Str × T)} {ws : List (Str × V)}, FzF A W fs ws → FzF A W (PB.putF fs f t) (L2.putF f v ws)
  | [], [], _ => by simp only [PB.putF, L2.putF, FzF]; exact ⟨trivial, h, trivial⟩
  | (k1, t1) :: ts, (k2, v1) :: vs, g => by
    simp only [FzF] at g
    obtain ⟨e1, g1, g2⟩ := g
    subst e1
    simp only [PB.putF, L2.putF]
    by_cases c : k1 = f
    · rw [if_pos c, if_pos c]
      simp only [FzF]
      exact ⟨c.symm, h, g2⟩
    · rw [if_neg c, if_neg c]
      simp only [FzF]
      exact ⟨trivial, g1, putF_fz h g2⟩
  | [], _ :: _, g => by simp only [FzF] at g
  | _ :: _, [], g => by simp only [FzF] at g
/-- a slot's own object, by the state -/
theorem own_at {W : Wd} {H : Hp} {σ : L2.St} {e : Ev} {i : Nat} {t : T} {v : V} (E : EnvOk A K W H σ e) (h : e.s[i]? = some (some (true, t))) (hv : σ[i]? = some (some v)) : ∃ p, v = .ref p ∧ Own A W H t p := by
  obtain ⟨v', h1, h2⟩ := E.sl i _ h
  rw [hv] at h1
  cases h1
  exact h2
theorem stepS' {α γ : Type} {q : Bool} {Rl : Rel α γ} {m : M α} {k : α → SM} {σ : L2.St} {H : Hp} {W : Wd} {e e' : Ev} {fl : Fl} {D : Ends} {Q1 : γ → Hp → Prop} {W0 : Wd} {H0 : Hp} {s0 : List (Option R)} {σ0 : L2.St}
    (hE : EnvOk A K W H σ e) (h0 : Stq W0 H0 s0 σ0 W H e.s σ) (hm : tob m k e = some (fl, e')) (hp : PostS A K XE W0 H0 s0 σ0 fl e' D)
    (hk : ∀ a e1 W1 H1 v, m e = some (.ok a, e1) → k a e1 = some (fl, e') → EnvOk A K W1 H1 σ e1 → Stq W0 H0 s0 σ0 W1 H1 e1.s σ → Stp q W H e.s σ W1 H1 e1.s → Rl H e.s σ W1 H1 e1.s a v → Q1 v H1) : tM A K XE q Rl m σ H Q1 := by
  rcases tob_some hm with ⟨a, e1, h1, h2⟩ | ⟨C, fs, h1, e2⟩
  · exact ⟨W, e, .ok a, e1, hE, h1, fun W1 H1 E1 S1 v r => hk a e1 W1 H1 v h1 h2 E1 (h0.trans S1.q) S1 r⟩
  · subst e2
    exact ⟨W, e, .exc C fs, e', hE, h1, fun W1 H1 E1 S1 cls d x => hp W1 H1 σ E1 (h0.trans S1.q) cls d x⟩
theorem rd_some {i : Nat} {e e1 : Ev} {r : R} (h : rd i e = some (.ok r, e1)) : e.s[i]? = some (some r) ∧ e1 = e := by
  unfold rd at h
  split at h
  · rename_i r' q1
    cases h
    exact ⟨q1, rfl⟩
  · cases h
theorem tob_rd {i : Nat} {k : R → SM} {e e' : Ev} {fl : Fl} (h : tob (rd i) k e = some (fl, e')) : ∃ r, e.s[i]? = some (some r) ∧ k r e = some (fl, e') := by
  rcases tob_some h with ⟨r, e1, h1, h2⟩ | ⟨C, fs, h1, _⟩
  · obtain ⟨h3, h4⟩ := rd_some h1
    subst h4
    exact ⟨r, h3, h2⟩
  · unfold rd at h1
    split at h1 <;> cases h1
/-- name[key] = value -/
theorem s_put {x : Str} {i : Nat} {px ps pos : Pos} {k : Expr} {ik : Ex} (hc : X.calm = true) (hu : X.A.units + 64 < cLine) (hN : X.N[i]? = some x) (hv : Vis X.env.scope x) (hd : (x == ("__debug__" : Str)) = false) (hcd : (x == ("__classdict__" : Str)) = false) (hsl : isSlice k = false)
    (ha : Pe A K XE C X a ia) (hk : Pr A K XE C X k ik) : Ps A K XE C X (.Assign [.Subscript (.Name x px) k ps] a pos) (.put i ik ia) := by
  have hs : swapsWith a (some (.Subscript (.Name x px) k ps)) pos.line X.env = pure false := by cases a <;> rfl
  have asg : ∀ v, assign (.Subscript (.Name x px) k ps) X.env v = (do
      let ov ← holding [v] (eval (.Name x px) X.env)
      let iv ← holding [v, ov] (eval k X.env)
      standAt ps
      holding [v, ov, iv] (setItem ov iv v)
      release [v, ov, iv] []) := by cases k <;> first | (intro v; rfl) | cases hsl
  have hnm := pe_var (pos := px) hN hv hd hcd
  refine ⟨fun pins s σ H D I hh => ?_⟩
  obtain ⟨W, e, fl, e', E, hm, hp⟩ := hh
  simp only [st] at hm
  -- the common part
  have run : ∀ (P : V → V → V → Hp → Prop), (∀ (r : R) (e1 : Ev) (kk : T) (e2 : Ev) (W2 W3 : Wd) (H2 : Hp) (v y q : V), ev C ia e = some (.ok r, e1) → rdm ik (ev C ik) e1 = some (.ok kk, e2) → putS i kk r.2 e2 = some (fl, e') → EnvOk A K W2 H2 σ e2 → EnvOk A K W3 H2 σ e2 → Stp false W H e.s σ W3 H2 e2.s →
      Fz A W3 r.2 v → Rv A W2 H2 kk y → σ[i]? = some (some q) → P v q y H2) →
      tE A K XE ia.quiet (ev C ia) σ H fun v H1 => ∃ o, σ[i]? = some (some o) ∧ tR A K XE ik.varOf ik.quiet (rdm ik (ev C ik)) σ H1 fun y H2 => P v o y H2 := fun P hP => by
    refine stepS' E (.refl _ _ _ _) hm hp fun r e1 W1 H1 v q1 hm E1 S1 s1 r1 => ?_
    obtain ⟨r0, h0, hm⟩ := tob_rd hm
    obtain ⟨o, h1, _⟩ := E1.sl i _ h0
    refine ⟨o, h1, ?_⟩
    refine stepS' E1 S1 hm hp fun kk e2 W2 H2 y q2 hm E2 S2 s2 r2 => ?_
    obtain ⟨W3, E3, S3, f3, l3⟩ := res_fz E2 ((s1.weak (q' := false) fun z => by cases z).trans (s2.weak fun z => by cases z)) (fun i a w => E.owt i a w) (fun _ z => z) (res_keep E2 s2 r1 fun hr p hp => (res_new E s1 r1 hr p hp).1)
    exact hP r e1 kk e2 W2 W3 H2 v y o q1 q2 hm E2 E3 S3 f3 r2.rv h1
  by_cases hl : ∃ r e1 kk e2 xs, ev C ia e = some (.ok r, e1) ∧ rdm ik (ev C ik) e1 = some (.ok kk, e2) ∧ e2.s[i]? = some (some (true, .lst xs))
  · obtain ⟨r0, e10, kk0, e20, xs, z1, z2, z3⟩ := hl
    refine (ps_asg ha (pg_sub hnm hk set_list asg) (by cases a <;> rfl) (by cases a <;> rfl) rfl).run pins s σ H D I (run (fun v o y H2 => rSetL o y v H2 fun H3 => D.nx σ H3) fun r e1 kk e2 W2 W3 H2 v y q h1 h2 h3 E2 E3 S3 f3 ry hq => ?_)
    rw [z1] at h1
    cases h1
    rw [z2] at h2
    cases h2
    unfold putS at h3
    rw [z3] at h3
    simp only at h3
    cases kk0 <;> simp only [reduceCtorEq] at h3
    rename_i j
    obtain ⟨p, e4, ow⟩ := own_at E3 z3 hq
    subst e4
    obtain ⟨g, o, ho, hr⟩ := ow
    simp only [OwnO] at hr
    obtain ⟨vs, e5, f⟩ := hr
    subst e5
    split at h3
    · rename_i n hn
      cases h3
      refine ⟨p, vs, j, n, rfl, rv_int ry, ho, by rw [← f.len]; exact hn, ?_⟩
      obtain ⟨E4, S4⟩ := write_ok (t' := .lst (xs.set n r0.2)) (o' := .lst (vs.set n v)) E3 S3 z3 hq (by simp only [OwnO]; exact ⟨_, rfl, FzL.set f3 f⟩)
      exact hp W3 _ σ E4 S4.q
    · cases h3
  · refine (ps_dput (by omega) hnm hk ha hs).run pins s σ H D I (run (fun v o y H2 => ∃ a H4, o = .ref a ∧ DPut H2 a y v H4 ∧ D.nx σ H4) fun r e1 kk e2 W2 W3 H2 v y q h1 h2 h3 E2 E3 S3 f3 ry hq => ?_)
    unfold putS at h3
    split at h3
    · rename_i x hx
      obtain ⟨p, e4, ow⟩ := own_at E3 hx hq
      subst e4
      obtain ⟨g, o, ho, hr⟩ := ow
      cases x <;> simp only [OwnO] at hr
      · exact absurd ⟨r, e1, kk, e2, _, h1, h2, hx⟩ hl
      · obtain ⟨ws, e5, f⟩ := hr
        subst e5
        simp only [dputT] at h3
        cases hk1 : kk.key with
        | none => rw [hk1] at h3; cases h3
        | some q =>
          rw [hk1] at h3
          simp only [Option.bind_some] at h3
          split at h3
          · rename_i x' hx'
            split at hx'
            · rename_i hlen
              cases hx'
              cases h3
              obtain ⟨E4, S4⟩ := write_ok (o' := .dK (putK ws q v)) E3 S3 hx hq (t' := .dK (putT _ q r.2)) (by simp only [OwnO]; exact ⟨_, rfl, putK_fz f3 f⟩)
              exact ⟨p, _, rfl, .inl ⟨ws, q, ho, key_of hk1 ry, by rw [← (anyK_fz q f).2]; exact hlen, rfl⟩, hp W3 _ σ E4 S4.q⟩
            · cases hx'
          · cases h3
      · obtain ⟨ws, e5, f⟩ := hr
        subst e5
        simp only [dputT] at h3
        cases hk1 : kk.tkey with
        | none => rw [hk1] at h3; cases h3
        | some q =>
          rw [hk1] at h3
          simp only [Option.bind_some] at h3
          split at h3
          · rename_i x' hx'
            split at hx'
            · rename_i hlen
              cases hx'
              cases h3
              obtain ⟨b, e6, hb⟩ := tkey_of hk1 E2 ry
              obtain ⟨E4, S4⟩ := write_ok (o' := .dT (putK ws q v)) E3 S3 hx hq (t' := .dT (putT _ q r.2)) (by simp only [OwnO]; exact ⟨_, rfl, putTT_fz f3 f⟩)
              exact ⟨p, _, rfl, .inr ⟨ws, q, b, ho, e6, hb, by rw [← (anyT_fz q f).2]; exact hlen, rfl⟩, hp W3 _ σ E4 S4.q⟩
            · cases hx'
          · cases h3
      · simp only [dputT, reduceCtorEq] at h3
    · cases h3
theorem fzF_len {W : Wd} : ∀ {fs : List (Str × T)} {ws : List (Str × V)}, FzF A W fs ws → fs.length = ws.length
  | [], [], _ => rfl
  | _ :: ts, _ :: vs, g => by
    simp only [FzF] at g
    simp only [List.length_cons, fzF_len g.2.2]
  | [], _ :: _, g => by simp only [FzF] at g
  | _ :: _, [], g => by simp only [FzF] at g
/-- name.f = value -/
theorem s_fld {x f : Str} {i : Nat} {px ps pos : Pos} (hK : X.K = K) (O : ClsOk K A) (hna : ∀ x ∈ A.cl, NoAttr K (A.ad x) f) (hN : X.N[i]? = some x) (hv : Vis X.env.scope x) (hd : (x == ("__debug__" : Str)) = false) (hcd : (x == ("__classdict__" : Str)) = false)
    (ha : Pe A K XE C X a ia) : Ps A K XE C X (.Assign [.Attribute (.Name x px) f ps] a pos) (.fld i f ia) := by
  refine PS.mono (ps_fld (pe_var hN hv hd hcd) ha (by cases a <;> rfl)) fun D σ H ⟨W, e, fl, e', E, hm, hp⟩ => ?_
  simp only [st] at hm
  refine stepS E (.refl _ _ _ _) hm hp fun r e1 W1 H1 v hm E1 S1 s1 r1 => ?_
  obtain ⟨r0, h0, hm⟩ := tob_rd hm
  obtain ⟨o, h1, _⟩ := E1.sl i _ h0
  refine ⟨o, h1, ?_⟩
  obtain ⟨W3, E3, S3, f3, l3⟩ := res_fz E1 (s1.weak (q' := false) fun z => by cases z) (fun i a w => E.owt i a w) (fun _ z => z) r1
  unfold fldS at hm
  split at hm
  · rename_i Cn fs hx
    split at hm
    · rename_i hl
      cases hm
      obtain ⟨p, e4, ow⟩ := own_at E3 hx h1
      subst e4
      obtain ⟨g, ob, ho, hr⟩ := ow
      simp only [OwnO] at hr
      obtain ⟨dx, ws, e5, f5, hC⟩ := hr
      subst e5
      obtain ⟨E4, S4⟩ := write_ok (o' := .ins (A.ad Cn) dx (L2.putF f v ws)) E3 S3 hx h1 (t' := .ins Cn (PB.putF fs f r.2)) (by simp only [OwnO]; exact ⟨dx, _, rfl, putF_fz f3 f5, hC⟩)
      rw [hK]
      exact ⟨p, A.ad Cn, dx, ws, rfl, ho, O.kc _ hC, hna _ hC, by rw [← fzF_len f5]; omega, hp W3 _ σ E4 S4.q⟩
    · cases hm
  · cases hm
end
end PB
end
section
set_option Elab.async false
set_option linter.all false
set_option maxRecDepth 100000
/-! PB22: raise. -/
namespace PB
open PySem PySem.Spec PyProof.Rows L2
section
variable {A : Cad} {K : PySem.W.Frag} {XE : XK} {C : Orc} {X : Cx} {pos p : Pos} {a b c d : Expr} {ia ib ic id : Ex}
/-- what an exception's __init__ of one field promises -/
def spX (K : PySem.W.Frag) (f : Str) : Sp := fun vs H Q _ => ∃ (a Cx : Addr) (y : V), vs = [.ref a, y] ∧ H a = some (exo a Cx none) ∧ OexC K Cx ∧ PySem.W.findIn K (.ref Cx) f = some none ∧
  ∀ dx, H dx = none → dx ≠ a → Q .non (upd (upd H dx (exd dx [(f, y)])) a (exo a Cx (some dx)))
structure XcK (X : Cx) (A : Cad) (k : Nat) (x f : Str) (fI : Addr) (fd : FuncData) (ps : List Str) : Prop where
  ok : FnOk X.prog X.w X.K X.mg X.base (L2.CX X.prog X.w) k fI fd ps (spX X.K f)
  oc : OexC X.K (A.ad x)
  ini : PySem.W.findIn X.K (.ref (A.ad x)) "__init__" = some (some (.ref fI))
  ty : PySem.W.typeIn X.K (.ref fI) = some (.type "function")
  no : PySem.W.findIn X.K (.ref (A.ad x)) f = some none
  bd : Binds X.K fd ps []
  mg : X.mg x = some (.ref (A.ad x))
theorem takes_nil : Takes X (fun _ _ _ _ => False) := fun u s' ⟨_, _, _, _, _, _, _, _, _, _, _, _, _, _, _, w⟩ => by
  obtain ⟨_, w⟩ := w
  exact w.elim
theorem passes_nil : Passes (L2.CX X.prog X.w) X (fun _ _ _ => False) := passes_call takes_nil fun _ _ _ _ h => h
theorem s_rse {x f : Str} {k : Nat} {fI : Addr} {fd : FuncData} {ps : List Str} {px pc pos : Pos} {es : List Expr} {is : List Ex} (hc : X.calm = true) (tk : Takes X fun c d _ H => XE c d H) (F : XcK X A k x f fI fd ps) (hr : Room (k + 1) X.A) (hg : Gl X x) (hd : (x == ("__debug__" : Str)) = false)
    (hl : is.length = 1) (ha : PeL A K XE C X es is) : Ps A K XE C X (.Raise (some (.Call (.Name x px) es [] pc)) none pos) (.rse x [f] is) := by
  match es, is, hl, ha with
  | [], [_], _, ha => simp only [PeL] at ha
  | _ :: _ :: _, [_], _, ha => simp only [PeL, and_false] at ha
  | [e], [i], _, ha =>
    refine PS.mono (ps_raise hc tk (pmk_oex F.oc F.ini F.ty F.ok hr F.bd .nil passes_nil hg F.mg (a_evs ha) hd (star_ok (by have := ha.star; simpa using this) _ _) (plain_ok (es := []) rfl _ _))) fun D σ H ⟨W, e0, fl, e', E, hm, hp⟩ => ?_
    simp only [st] at hm
    refine stepS E (.refl _ _ _ _) hm hp fun ts e1 W1 H1 vs hm E1 S1 s1 r1 => ?_
    have r1 : FzL A W1 ts vs := r1
    split at hm
    · rename_i hlen
      cases hm
      match ts, vs, hlen, r1 with
      | [_], [], _, r1 => exact r1.elim
      | [_], _ :: _ :: _, _, r1 => exact r1.2.elim
      | [t], [v], _, r1 =>
        have r1 : Fz A W1 t v ∧ True := r1
        refine ⟨by simp, fun y hy => ⟨y, A.ad x, v, rfl, upd_same, F.oc, F.no, fun dx h1 h2 => ⟨rfl, dx, [(f, v)], upd_same, ?_, ?_, ?_⟩⟩⟩
        · rw [upd_ne h2, upd_same]
        · rw [upd_ne h2] at h1; exact h1
        · have hdx : H1 dx = none := by rw [upd_ne h2] at h1; exact h1
          have eH : upd (del (upd (upd (upd H1 y (exo y (A.ad x) none)) dx (exd dx [(f, v)])) y (exo y (A.ad x) (some dx))) y) dx (.xd [(f, v)]) = upd H1 dx (.xd [(f, v)]) := by
            funext z
            by_cases c1 : z = dx
            · subst c1; rw [upd_same, upd_same]
            · rw [upd_ne c1, upd_ne c1]
              by_cases c2 : z = y
              · subst c2; rw [del_same, hy]
              · rw [del_ne c2, upd_ne c2, upd_ne c1, upd_ne c2]
          rw [eH]
          refine hp W1 _ σ (E1.ext (upd_ext hdx)) ⟨S1.wle, fun a o h n d => upd_ext hdx _ _ (S1.keep a o h n d), fun a h => S1.dom a ?_, S1.new, S1.own, S1.drn, S1.fx⟩ _ _ ⟨rfl, dx, [(f, v)], rfl, upd_same, ?_⟩
          · cases y2 : H1 a with
            | none => rfl
            | some o => rw [upd_ext hdx a o y2] at h; cases h
          · simp only [List.zip_cons_cons, List.zip_nil_right, FzF]
            exact ⟨trivial, r1.1, trivial⟩
    · cases hm
end
end PB
end
section
set_option Elab.async false
set_option linter.all false
set_option maxRecDepth 100000
set_option maxHeartbeats 2000000
/-! PBE: enumerate of a tuple. -/
namespace PB
open PySem PySem.Spec PyProof.Rows L2
open Sem (wp)
open AutoSeq1 (wpAny_loadPart')
theorem meets_enumT (l : Addr) (its : Array Value) (n : Nat) (dct : Option Addr) (sl : Array (Option Value)) :
    Meets (Builtin.«enumerate.__new__» ⟨[.type "enumerate", .ref l], []⟩) (fun _ R s => s.heap.get? l = some { cls := .type "tuple", dict := dct, data := .seq its n, slots := sl } ∧
      R (.ok (.ret (.ref (s.heap.push { cls := .type "tuple_iterator", data := .fields #[.ref l, .int 0 0] }).objs.size)))
        { s with heap := (s.heap.push { cls := .type "tuple_iterator", data := .fields #[.ref l, .int 0 0] }).push { cls := .type "enumerate", data := .fields #[.none, .bool false, .ref s.heap.objs.size, rawInt 0, .none, .none] } }) :=
  .of_wp fun prog w A R s h => by
    obtain ⟨hp, g, d, tk, os⟩ := s
    obtain ⟨hl, h⟩ := h
    have hsub := sub_enumerate
    have hT : Heap.IsTuple (Shared.heap ⟨hp, g, d, tk, os⟩) l its := ⟨_, hl, rfl, n, rfl⟩
    wp_walk using wpAny_loadPart' hl
    refine wpAny_stack_any fun st => wpAny_pure ?_
    split
    · rename_i c _ _ _ _ _
      cases (c == Value.type "enumerate") <;> (wp_walk using wpAny_loadPart' hl, wpAny_pyIter_tuple hT) <;> exact ⟨_, rfl, h⟩
    · wp_walk using wpAny_loadPart' hl, wpAny_pyIter_tuple hT
      exact ⟨_, rfl, h⟩
theorem call_enumT {prog : Program} {w : World} {A : Around} {E : Value → Shared → Prop} {s : Shared} {l : Addr} {its : Array Value} {Q : Value → Shared → Prop} (hL : s.heap.IsTuple l its)
    (h : ∀ h', IsEnum h' (s.heap.objs.size + 1) s.heap.objs.size 0 .none → h'.IsTupleIter s.heap.objs.size l 0 → h'.objs.size = s.heap.objs.size + 2 →
      (∀ b o, s.heap.get? b = some o → h'.get? b = some o) → Q (.ref (s.heap.objs.size + 1)) { s with heap := h' }) :
    wpAny (model prog w) A (call (.type "enumerate") [.ref l]) Q E s := by
  obtain ⟨⟨c, dct, dt, sl⟩, hl, hc, n, hd⟩ := hL
  cases (show c = .type "tuple" from hc)
  cases (show dt = .seq its n from hd)
  refine callType_new F.called_enumerate (by decide) (F.typeCall_enumerate_1 _) (F.newCall_enumerate_1 _) (fun obj => F.args_object_init_2 obj _) F.entry_enumerate_new (meets_enumT l its n dct sl) ⟨hl, ?_⟩
  have hz : (s.heap.push { cls := .type "tuple_iterator", data := .fields #[.ref l, .int 0 0] }).objs.size = s.heap.objs.size + 1 := Heap.size_push ..
  show _ ∧ _
  rw [hz]
  have he : IsEnum ((s.heap.push { cls := .type "tuple_iterator", data := .fields #[.ref l, .int 0 0] }).push { cls := .type "enumerate", data := .fields #[.none, .bool false, .ref s.heap.objs.size, rawInt 0, .none, .none] })
      (s.heap.objs.size + 1) s.heap.objs.size 0 .none := by
    have z := Heap.get?_push_size (s.heap.push { cls := .type "tuple_iterator", data := .fields #[.ref l, .int 0 0] }) (o := { cls := .type "enumerate", data := .fields #[.none, .bool false, .ref s.heap.objs.size, rawInt 0, .none, .none] }) rfl
    rw [hz] at z
    exact z
  exact ⟨⟨_, he, rfl⟩, h _ he ⟨_, Heap.get?_push_of_some _ (Heap.get?_push_size _ rfl), rfl, rfl⟩ (by rw [Heap.size_push, hz]) fun b o x => Heap.get?_push_of_some _ (Heap.get?_push_of_some _ x)⟩
/-- the tuple at a, each item in a new pair -/
def IteT (K : PySem.W.Frag) (a : Addr) : L2.It :=
  ⟨fun i H => ∃ (xs : List V) (x : V), SqT K H a xs ∧ xs[i]? = some x, fun i H v H' => ∃ T x, v = .ref T ∧ H T = none ∧ H' = upd H T (.tup [.int (i : Nat), x]) ∧ ∀ xs, SqT K H a xs → xs[i]? = some x, fun i H => ∃ xs : List V, SqT K H a xs ∧ xs.length ≤ i⟩
theorem turn_enumT {P : Program} {w : World} {K : PySem.W.Frag} {elts : List Expr} {kk : Nat} {tpos : Pos} (a e it : Addr) :
    Turn P w K (.Tuple elts kk tpos) (IteT K a) [e, it] e (fun i h => (∃ old, IsEnum h e it ((i : Nat) : Int) old) ∧ h.IsTupleIter it a i ∧ e ≠ it ∧ a ≠ it ∧ a ≠ e) where
  mem := by simp
  obj := fun i h st b hb => by
    obtain ⟨⟨old, he⟩, ⟨o, ho, hc, hd⟩, _⟩ := st
    have e' : b = e ∨ b = it := by simpa using hb
    rcases e' with z | z
    · subst z; exact ⟨_, he, fun v q => nomatch q⟩
    · subst z; exact ⟨o, ho, fun v q => by rw [hd] at q; cases q⟩
  keep := fun i h h' st k => by
    obtain ⟨⟨old, he⟩, hi, hn⟩ := st
    exact ⟨⟨old, k e (by simp) _ he⟩, hi.at fun o q => k it (by simp) o q, hn⟩
  item := by
    intro X hP hw hK hc i pins s σ H E I hf st hg
    subst hP hw hK
    obtain ⟨⟨old, he⟩, hit, hne, hai, hae⟩ := st
    obtain ⟨xs, x, hq, hx⟩ := hg
    obtain ⟨its, rv, p, hz⟩ := I.tuple hq
    obtain ⟨u, hu, ru⟩ := rv.get hx
    have pT : s.heap.IsTuple a its.toArray := p
    have hlt : i < its.length := by
      rcases Nat.lt_or_ge i its.length with z | z
      · exact z
      · rw [List.getElem?_eq_none z] at hu; cases hu
    have hel : e < s.heap.objs.size := Heap.lt_size he
    have hil : it < s.heap.objs.size := by obtain ⟨_, q, _⟩ := hit; exact Heap.lt_size q
    have D := Draws.tuple (prog := X.prog) (w := X.w) (A := X.A.in1) (I.ok.hd hc) it a hai its.toArray
    refine wpAny_pyNext_enum_itemD D he ⟨hit, pT⟩ (by simpa using hlt) hne (by simp [hne, Ne.symm hae]) fun y h' tk hy ho hit' hT hsz hk => ?_
    have hyu : y = u := by
      have z : its.toArray[i]? = some y := hy
      rw [show its.toArray[i]? = its[i]? by simp, hu] at z
      exact (Option.some.inj z).symm
    subst hyu
    refine ⟨_, rfl, wpAny_letOwnedTupleGo_enum (s := { s with heap := h', toks := tk + 1 }) ho fun h'' he' sb => ?_⟩
    have hT2 : h''.get? s.heap.objs.size = some { cls := .type "tuple", data := .seq #[.int i tk, y] } := (sb.2 _ (Nat.ne_of_gt hel)).trans hT
    have new : ObjOk X.prog X.w (upd H s.heap.objs.size (.tup [.int (i : Nat), x])) h'' s.heap.objs.size (.tup [.int (i : Nat), x]) :=
      ⟨by show 2 ≤ sizeLine; decide, [.int i tk, y], .cons ⟨_, rfl⟩ (.cons ru .nil), ⟨_, hT2, rfl, _, rfl⟩⟩
    have I1 : Inv X pins σ (upd H s.heap.objs.size (.tup [.int (i : Nat), x])) { s with heap := h'', toks := tk + 1 } :=
      I.turnedNew (ch := [e, it]) (fun b ob hb q => (sb.2 b (fun z => hb (by simp [z]))).trans (hk b ob (fun z => hb (by simp [z])) (fun z => hb (by simp [z])) q)) hf (Nat.le_refl _) new
    refine ⟨.ref s.heap.objs.size, _, I1, rfl, ⟨_, x, rfl, I.hok.fresh (Nat.le_refl _), rfl, fun ys hy => by rw [I.tuple_inj hy hq]; exact hx⟩, ⟨⟨y, ?_⟩, hit'.1.at fun o q => (sb.2 it (Ne.symm hne)).trans q, hne, hai, hae⟩, fun b hb => ?_⟩
    · have e1 : ((i + 1 : Nat) : Int) = (i : Int) + 1 := by omega
      rw [e1]
      exact he'
    · have hb' : b < s.heap.objs.size := by
        have e' : b = e ∨ b = it := by simpa using hb
        rcases e' with z | z
        · subst z; exact hel
        · subst z; exact hil
      rw [upd_ne (Nat.ne_of_lt hb')]
      exact (hf b hb).1
  done := by
    intro X hP hw hK hc i pins s σ H E I hf st hg
    subst hP hw hK
    obtain ⟨⟨old, he⟩, hit, hne, hai, hae⟩ := st
    obtain ⟨xs, hq, hx⟩ := hg
    obtain ⟨its, rv, p, hz⟩ := I.tuple hq
    have pT : s.heap.IsTuple a its.toArray := p
    obtain ⟨f0, f1, f2, f3, f4, f5⟩ := hf it (by simp)
    have hl := rv.length
    have hT : s.TypeIs (.ref e) "enumerate" := ⟨_, he, rfl⟩
    unfold pyNext
    refine wpAny_bind (wpAny_attempt (wpAny_callSpecial?_slot (name := Str.ofString "__next__") hT F.slot_enumerate_next (wpAny_call_entry F.slot_enumerate_next hT F.entry_enumerate_next ?_ (F.args_enumerate_next_1 _))))
    show wpAny _ _ (field (.ref e) 2 >>= _) _ _ _
    refine wpAny_bind (wpAny_field he rfl (x := .ref it) rfl ?_)
    refine wpAny_bind (wpAny_nextOf_tuple_end (I.ok.hd hc) hit pT (by simp; omega) fun h' x he' hx' => ?_)
    obtain ⟨o, ho, hc'⟩ := hx'
    refine wpAny_bind (wpAny_isInstance (T := "StopIteration") (b := true) ⟨o, ho, hc'⟩ isSubtype_stop ?_)
    exact wpAny_pure ⟨rfl, I.turned (t' := s.toks) (fun b o hb q => he' b o hb q) f0 f1 f3 f4 f5⟩
  self := fun A i s Q E st h => by
    obtain ⟨⟨_, he⟩, _⟩ := st
    exact wpAny_pyIter_enum he h
def iEnumA (K : PySem.W.Frag) (ta : TA) : TI := fun σ H R => ta σ H fun vs H1 => ∃ a xs, vs = [.ref a] ∧ ((SqL K H1 a xs ∧ R (Ite K a) H1) ∨ (SqT K H1 a xs ∧ R (IteT K a) H1))
theorem pi_enumA {X : Cx} {e : Expr} {ta : TA} {p pos tpos : Pos} {elts : List Expr} {kk : Nat} (hg : Gl X "enumerate") (hm : X.mg "enumerate" = none) (ha : PA X [e] ta) (hs : starEach [e] X.env = [(false, eval e X.env)]) :
    PI X (.Tuple elts kk tpos) (.Call (.Name "enumerate" p) [e] [] pos) (iEnumA X.K ta) := by
  refine ⟨fun pins s σ H R I h => ?_⟩
  refine Call_ (ld_blt I hg hm boot_enumerate (PyProof.Rows.callWith_type1 (thn (ha.run pos pins s σ H _ I h) fun us s1 ⟨vs, H1, I1, r1, q1⟩ => ?_) hs rfl))
  obtain ⟨a, xs, ex, q1⟩ := q1
  subst ex
  cases r1 with
  | cons r rr =>
    cases rr
    cases r
    have hfp : ∀ b ∈ [s1.heap.objs.size + 1, s1.heap.objs.size], FpOk X pins H1 b := fun b hb => by
      have e' : b = s1.heap.objs.size + 1 ∨ b = s1.heap.objs.size := by simpa using hb
      have hle : s1.heap.objs.size ≤ b := by
        rcases e' with z | z
        · subst z; exact Nat.le_add_right _ _
        · subst z; exact Nat.le_refl _
      exact I1.fpOk hle (I1.hok.fresh hle)
    rcases q1 with ⟨hq, q⟩ | ⟨hq, q⟩
    · obtain ⟨its, rv, p', hz⟩ := I1.list hq
      refine call_enumerate_list p'.isList fun h' he hit hsz hk => wpAny_pyIter_enum he ?_
      exact ⟨s1.heap.objs.size + 1, [s1.heap.objs.size + 1, s1.heap.objs.size], _, _, H1, rfl, I1.kept (t' := s1.toks) hk, turn_enum a (s1.heap.objs.size + 1) s1.heap.objs.size, ⟨⟨.none, he⟩, hit, Nat.succ_ne_self _⟩, hfp, q⟩
    · obtain ⟨its, rv, p', hz⟩ := I1.tuple hq
      have pT : s1.heap.IsTuple a its.toArray := p'
      have hal : a < s1.heap.objs.size := by obtain ⟨_, q, _⟩ := pT; exact Heap.lt_size q
      refine call_enumT pT fun h' he hit hsz hk => wpAny_pyIter_enum he ?_
      exact ⟨s1.heap.objs.size + 1, [s1.heap.objs.size + 1, s1.heap.objs.size], _, _, H1, rfl, I1.kept (t' := s1.toks) hk, turn_enumT a (s1.heap.objs.size + 1) s1.heap.objs.size, ⟨⟨.none, he⟩, hit, Nat.succ_ne_self _, Nat.ne_of_lt hal, Nat.ne_of_lt (Nat.lt_succ_of_lt hal)⟩, hfp, q⟩
end PB
end
section
set_option Elab.async false
set_option linter.all false
set_option maxRecDepth 100000
/-! PB23: what is walked; for. -/
namespace PB
open PySem PySem.Spec PyProof.Rows L2
section
variable {A : Cad} {K : PySem.W.Frag} {XE : XK} {C : Orc} {X : Cx} {pos p : Pos} {a b c d : Expr} {ia ib ic id : Ex}
abbrev Lck := Option (Addr × HO)
/-- an iterator hands out these items, while the lock holds -/
def ItOk (A : Cad) (K : PySem.W.Frag) (L : Lck) (J : L2.It) (W1 : Wd) (xs : List T) : Prop :=
  ∀ (i : Nat) (W : Wd) (H : Hp) (σ : L2.St) (e : Ev), EnvOk A K W H σ e → W1.le W → (∀ d u, L = some (d, u) → H d = some u) → (xs.length ≤ i → J.stop i H) ∧
    ∀ t, xs[i]? = some t → J.go i H ∧ ∀ v H', J.yld i H v H' → ∃ W', EnvOk A K W' H' σ e ∧ Stp true W H e.s σ W' H' e.s ∧ Fz A W' t v
def rI (A : Cad) (K : PySem.W.Frag) : Rel (List T) L2.It := fun _ _ _ W' _ _ xs J => ItOk A K none J W' xs
abbrev Pi (A : Cad) (K : PySem.W.Frag) (XE : XK) (C : Orc) (X : Cx) (tg iter : Expr) (it : It) : Prop := PI X tg iter (tM A K XE it.quiet (rI A K) (itL C it))
theorem PI.mono {tg e : Expr} {t t' : TI} (h : PI X tg e t) (f : ∀ σ H Q, t' σ H Q → t σ H Q) : PI X tg e t' := ⟨fun pins s σ H Q I q => h.run pins s σ H Q I (f σ H Q q)⟩
theorem itok_lst {W1 : Wd} {q : Addr} {ts : List T} {vs : List V} (g : W1.G q = some (.lst vs)) (f : FzL A W1 ts vs) : ItOk A K none (Itl K q) W1 ts := by
  intro i W H σ e E le _
  have hq : SqL K H q vs := .inl (.inl (E.at_ (le.g _ _ g) rfl))
  refine ⟨fun hi => ⟨vs, hq, by rw [← f.len]; exact hi⟩, fun t ht => ?_⟩
  obtain ⟨v, h1, h2⟩ := f.get ht
  refine ⟨⟨vs, v, hq, h1⟩, fun x H' ⟨e1, y⟩ => ?_⟩
  subst e1
  have z := y vs hq
  rw [h1] at z
  cases z
  exact ⟨W, E, .refl _ _ _ _ _, h2.mono A le⟩
theorem itok_tup {W1 : Wd} {q : Addr} {ts : List T} {vs : List V} (g : W1.G q = some (.tup vs)) (f : FzL A W1 ts vs) : ItOk A K none (Itt K q) W1 ts := by
  intro i W H σ e E le _
  have hq : SqT K H q vs := .inl (.inl (E.at_ (le.g _ _ g) rfl))
  refine ⟨fun hi => ⟨vs, hq, by rw [← f.len]; exact hi⟩, fun t ht => ?_⟩
  obtain ⟨v, h1, h2⟩ := f.get ht
  refine ⟨⟨vs, v, hq, h1⟩, fun x H' ⟨e1, y⟩ => ?_⟩
  subst e1
  have z := y vs hq
  rw [h1] at z
  cases z
  exact ⟨W, E, .refl _ _ _ _ _, h2.mono A le⟩
theorem fz_lst {W : Wd} {ts : List T} {v : V} (h : Fz A W (.lst ts) v) : ∃ a vs, v = .ref a ∧ W.G a = some (.lst vs) ∧ FzL A W ts vs := by simpa only [Fz] using h
theorem fz_tup {W : Wd} {ts : List T} {v : V} (h : Fz A W (.tup ts) v) : ∃ a vs, v = .ref a ∧ W.G a = some (.tup vs) ∧ FzL A W ts vs := by simpa only [Fz] using h
theorem itok_str {W1 : Wd} (x : Str) : ItOk A K none (Its x) W1 (x.cps.toList.map fun c => .str ⟨#[c]⟩) := by
  intro i W H σ e E le _
  refine ⟨fun hi => ?_, fun t ht => ?_⟩
  · have : x.cps.size ≤ i := by simpa using hi
    exact this
  · simp only [List.getElem?_map, Option.map_eq_some_iff] at ht
    obtain ⟨c, h1, h2⟩ := ht
    subst h2
    have h1' : x.cps[i]? = some c := by simpa using h1
    refine ⟨?_, fun v H' ⟨e1, c', h3, h4⟩ => ?_⟩
    · show i < x.cps.size
      exact (Array.getElem?_eq_some_iff.mp h1').1
    · subst e1
      rw [h1'] at h3
      cases h3
      exact ⟨W, E, .refl _ _ _ _ _, by simp only [Fz]; exact h4⟩
theorem i_seq {tg : Expr} (hK : X.K = K) (ha : Pe A K XE C X a ia) : Pi A K XE C X tg a (.seq ia) := by
  refine ⟨fun pins s σ H R I hh => ?_⟩
  obtain ⟨W, e, out, e', E, hm, hp⟩ := hh
  simp only [itL] at hm
  by_cases hl : ∃ o xs e1, ev C ia e = some (.ok (o, .lst xs), e1)
  · obtain ⟨o0, xs0, e0, h0⟩ := hl
    refine (pi_list ha).run pins s σ H R I ?_
    refine step' E (.refl _ W H e.s σ) hm hp (fun z => by simpa [It.quiet] using z) fun r e1 W1 H1 v hr hm E1 S1 s1 r1 => ?_
    rw [h0] at hr
    cases hr
    obtain ⟨xs, h1, h2, h3⟩ := opt_some hm
    subst h2 h3
    simp only [seqS, seqOf, Option.some.injEq] at h1
    subst h1
    obtain ⟨W2, E2, S2, f2, _⟩ := res_fz E1 S1 (fun i a w => E.owt i a w) (fun _ z => z) r1
    obtain ⟨q, vs, z1, z2, z3⟩ := fz_lst f2
    rw [hK]
    exact ⟨q, z1, ⟨vs, .inl (.inl (E2.at_ z2 rfl))⟩, hp W2 H1 E2 S2 _ (itok_lst z2 z3)⟩
  by_cases hstr : ∃ o x e1, ev C ia e = some (.ok (o, .str x), e1)
  · obtain ⟨o0, x0, e0, h0⟩ := hstr
    refine (pi_str ha).run pins s σ H R I ?_
    refine step' E (.refl _ W H e.s σ) hm hp (fun z => by simpa [It.quiet] using z) fun r e1 W1 H1 v hr hm E1 S1 s1 r1 => ?_
    rw [h0] at hr
    cases hr
    obtain ⟨xs, h1, h2, h3⟩ := opt_some hm
    subst h2 h3
    simp only [seqS, Option.some.injEq] at h1
    subst h1
    obtain ⟨W2, E2, S2, f2, _⟩ := res_fz E1 S1 (fun i a w => E.owt i a w) (fun _ z => z) r1
    have ev1 : v = .str x0 := by simpa only [Fz] using f2
    exact ⟨x0, ev1, hp W2 H1 E2 S2 _ (itok_str x0)⟩
  · refine (pi_tup ha).run pins s σ H R I ?_
    refine step' E (.refl _ W H e.s σ) hm hp (fun z => by simpa [It.quiet] using z) fun r e1 W1 H1 v hr hm E1 S1 s1 r1 => ?_
    obtain ⟨xs, h1, h2, h3⟩ := opt_some hm
    subst h2 h3
    obtain ⟨W2, E2, S2, f2, _⟩ := res_fz E1 S1 (fun i a w => E.owt i a w) (fun _ z => z) r1
    obtain ⟨o, t⟩ := r
    cases t <;> simp only [seqS, seqOf, Option.some.injEq, reduceCtorEq] at h1
    · exact absurd ⟨o, _, _, hr⟩ hstr
    · exact absurd ⟨o, _, _, hr⟩ hl
    · subst h1
      obtain ⟨q, vs, z1, z2, z3⟩ := fz_tup f2
      rw [hK]
      exact ⟨q, z1, ⟨vs, .inl (.inl (E2.at_ z2 rfl))⟩, hp W2 H1 E2 S2 _ (itok_tup z2 z3)⟩
theorem rngL_get {a b : Int} {i : Nat} {t : T} (h : (rngL a b)[i]? = some t) : i < (b - a).toNat ∧ t = .int (a + i) := by
  have hi := get_lt h
  simp only [rngL, List.length_map, List.length_range] at hi
  refine ⟨hi, ?_⟩
  simp only [rngL, List.getElem?_map, List.getElem?_range hi, Option.map_some, Option.some.injEq] at h
  exact h.symm
theorem itok_rng {W1 : Wd} {a b : Int} : ItOk A K none (Itr a (b - a).toNat) W1 (rngL a b) := by
  intro i W H σ e E le _
  refine ⟨fun hi => ?_, fun t ht => ?_⟩
  · simp only [rngL, List.length_map, List.length_range] at hi
    exact hi
  obtain ⟨h1, h2⟩ := rngL_get ht
  subst h2
  refine ⟨h1, fun v H' ⟨e1, e2⟩ => ?_⟩
  subst e1 e2
  exact ⟨W, E, .refl _ _ _ _ _, by simp only [Fz]⟩
theorem itok_rng0 {W1 : Wd} {b : Int} : ItOk A K none (Itr 0 b.toNat) W1 (rngL 0 b) := by
  have z := itok_rng (A := A) (K := K) (W1 := W1) (a := 0) (b := b)
  simp only [Int.sub_zero] at z
  exact z
theorem i_rng {tg : Expr} {x : Str} (hx : x = Str.ofString "range") (hb : Bn X "range") (hs : noStar a = true) (ha : Pr A K XE C X a ia) : Pi A K XE C X tg (.Call (.Name x p) [a] [] pos) (.rng ia) := by
  subst hx
  refine PI.mono (pi_range1 hb.gl hb.no (pa_cons ha pa_nil (star_ok hs [] _)) (star_ok hs [] _)) fun σ H Q hh => ?_
  obtain ⟨W, e, out, e', E, hm, hp⟩ := hh
  simp only [itL] at hm
  refine step E (.refl _ W H e.s σ) hm hp (fun z => by simpa [It.quiet] using z) fun x e1 W1 H1 v hm E1 S1 s1 r1 => ?_
  obtain ⟨xs, h1, h2, h3⟩ := opt_some hm
  subst h2 h3
  cases x <;> simp only [toInt, Option.bind_eq_some_iff, Option.some.injEq, reduceCtorEq, false_and, exists_false] at h1
  obtain ⟨n, h4, h5⟩ := h1
  subst h4
  split at h5
  · rename_i hc
    cases h5
    simp only [okR_iff, Bool.and_eq_true, decide_eq_true_eq] at hc
    refine ⟨_, by rw [rv_int r1.rv], hc.1, hc.2, ?_⟩
    exact hp W1 H1 E1 S1 _ itok_rng0
  · cases h5
theorem i_rng2 {tg : Expr} {x : Str} (hx : x = Str.ofString "range") (hb : Bn X "range") (hs : noStar a = true) (hs2 : noStar b = true) (ha : Pr A K XE C X a ia) (hbb : Pr A K XE C X b ib) : Pi A K XE C X tg (.Call (.Name x p) [a, b] [] pos) (.rng2 ia ib) := by
  subst hx
  refine PI.mono (pi_range2 hb.gl hb.no (pa_cons ha (pa_cons hbb pa_nil (star_ok hs2 [] _)) (star_ok hs [b] _)) (by rw [star_ok hs, star_ok hs2]; rfl) (star_ok hs2 [] _)) fun σ H Q hh => ?_
  obtain ⟨W, e, out, e', E, hm, hp⟩ := hh
  simp only [itL] at hm
  have hq : (It.rng2 ia ib).quiet = true → ia.quiet = true ∧ ib.quiet = true := fun z => by simpa [It.quiet] using z
  refine step E (.refl _ W H e.s σ) hm hp (fun z => (hq z).1) fun x e1 W1 H1 v1 hm E1 S1 s1 r1 => ?_
  refine step E1 S1 hm hp (fun z => (hq z).2) fun y e2 W2 H2 v2 hm E2 S2 s2 r2 => ?_
  obtain ⟨r, h1, h2, h3⟩ := opt_some hm
  subst h2 h3
  cases x <;> simp only [toInt, Option.bind_eq_some_iff, Option.some.injEq, reduceCtorEq, false_and, exists_false] at h1
  obtain ⟨n, h4, h5⟩ := h1
  subst h4
  cases y <;> simp only [Option.bind_eq_some_iff, Option.some.injEq, reduceCtorEq, false_and, exists_false] at h5
  obtain ⟨m, h4, h5⟩ := h5
  subst h4
  split at h5
  · rename_i hc
    cases h5
    simp only [okR_iff, Bool.and_eq_true, decide_eq_true_eq] at hc
    exact ⟨_, _, by rw [rv_int r1.rv, rv_int r2.rv], ⟨hc.1.1, hc.1.2, hc.2.1, hc.2.2⟩, hp W2 H2 E2 S2 _ itok_rng⟩
  · cases h5
/-- pairs, each made anew -/
theorem itok_new {J : L2.It} {W1 : Wd} {xs : List T} {vs : List (List V)} (ln : xs.length = vs.length) (get : ∀ (i : Nat) (t : T), xs[i]? = some t → ∃ (ts : List T) (us : List V), t = .tup ts ∧ vs[i]? = some us ∧ FzL A W1 ts us)
    (stop : ∀ (i : Nat) (W : Wd) (H : Hp) (σ : L2.St) (e : Ev), EnvOk A K W H σ e → W1.le W → vs.length ≤ i → J.stop i H) (go : ∀ (i : Nat) (us : List V) (W : Wd) (H : Hp) (σ : L2.St) (e : Ev), EnvOk A K W H σ e → W1.le W → vs[i]? = some us → J.go i H ∧ ∀ v H', J.yld i H v H' → ∃ q, v = .ref q ∧ H q = none ∧ H' = upd H q (.tup us)) : ItOk A K none J W1 xs := by
  intro i W H σ e E le _
  refine ⟨fun hi => stop i W H σ e E le (by rw [← ln]; exact hi), fun t ht => ?_⟩
  obtain ⟨ts, us, h1, h2, h3⟩ := get i t ht
  obtain ⟨g1, g2⟩ := go i us W H σ e E le h2
  refine ⟨g1, fun v H' y => ?_⟩
  obtain ⟨q, e1, hq, e2⟩ := g2 v H' y
  subst e1 e2 h1
  obtain ⟨W', E', S', f⟩ := new_tup (q := true) E (.refl _ W H e.s σ) hq (h3.mono A le)
  exact ⟨W', E', S', f⟩
theorem enum_get {xs : List T} {i : Nat} {t : T} (h : (enumL xs)[i]? = some t) : ∃ x, xs[i]? = some x ∧ t = .tup [.int i, x] := by
  simp only [enumL, List.getElem?_map, List.getElem?_zipIdx, Option.map_eq_some_iff, Nat.zero_add] at h
  obtain ⟨p, ⟨x, h1, h2⟩, h3⟩ := h
  subst h2 h3
  exact ⟨x, h1, rfl⟩
theorem enum_ok {J : L2.It} {W1 : Wd} {ts : List T} {vs : List V} (f : FzL A W1 ts vs) (stop : ∀ i W H σ e, EnvOk A K W H σ e → W1.le W → vs.length ≤ i → J.stop i H)
    (go : ∀ i x W H σ e, EnvOk A K W H σ e → W1.le W → vs[i]? = some x → J.go i H ∧ ∀ v H', J.yld i H v H' → ∃ q, v = .ref q ∧ H q = none ∧ H' = upd H q (.tup [.int (i : Nat), x])) : ItOk A K none J W1 (enumL ts) := by
  refine itok_new (vs := vs.zipIdx.map fun p => [.int (p.2 : Nat), p.1]) (by simp [enumL, f.len]) (fun i t h => ?_) (fun i W H σ e E le hi => stop i W H σ e E le (by simpa using hi)) fun i us W H σ e E le h => ?_
  · obtain ⟨x, h1, h2⟩ := enum_get h
    obtain ⟨v, h3, h4⟩ := f.get h1
    refine ⟨_, [.int (i : Nat), v], h2, by simp [List.getElem?_zipIdx, h3], ?_⟩
    simp only [FzL, Fz]
    exact ⟨trivial, h4, trivial⟩
  · simp only [List.getElem?_map, List.getElem?_zipIdx, Option.map_eq_some_iff, Nat.zero_add] at h
    obtain ⟨p, ⟨x, h1, h2⟩, h3⟩ := h
    subst h2 h3
    exact go i x W H σ e E le h1
theorem i_enum {elts : List Expr} {kk : Nat} {tpos : Pos} {x : Str} (hx : x = Str.ofString "enumerate") (hK : X.K = K) (hb : Bn X "enumerate") (hs : noStar a = true) (ha : Pe A K XE C X a ia) : Pi A K XE C X (.Tuple elts kk tpos) (.Call (.Name x p) [a] [] pos) (.enum ia) := by
  subst hx
  refine PI.mono (pi_enumA hb.gl hb.no (pa_cons ha pa_nil (star_ok hs [] _)) (star_ok hs [] _)) fun σ H Q hh => ?_
  obtain ⟨W, e, out, e', E, hm, hp⟩ := hh
  simp only [itL] at hm
  refine step E (.refl _ W H e.s σ) hm hp (fun z => by simpa [It.quiet] using z) fun r e1 W1 H1 v hm E1 S1 s1 r1 => ?_
  obtain ⟨xs, h1, h2, h3⟩ := opt_some hm
  subst h2 h3
  simp only [Option.map_eq_some_iff] at h1
  obtain ⟨l, h4, h5⟩ := h1
  subst h5
  obtain ⟨W2, E2, S2, f2, _⟩ := res_fz E1 S1 (fun i a w => E.owt i a w) (fun _ z => z) r1
  obtain ⟨o, t⟩ := r
  rw [hK]
  cases t <;> simp only [seqOf, Option.some.injEq, reduceCtorEq] at h4
  · subst h4
    obtain ⟨q, vs, z1, z2, z3⟩ := fz_lst f2
    subst z1
    have sq : ∀ {W3 H3 σ3 e3}, EnvOk A K W3 H3 σ3 e3 → W2.le W3 → SqL K H3 q vs := fun E3 le => .inl (.inl (E3.at_ (le.g _ _ z2) rfl))
    refine ⟨q, vs, rfl, .inl ⟨sq E2 (.refl W2), hp W2 H1 E2 S2 _ (enum_ok z3 (fun i W H σ e E le hi => ⟨vs, sq E le, hi⟩) fun i x W H σ e E le hx => ⟨⟨vs, x, sq E le, hx⟩, fun v H' ⟨T, x', y1, y2, y3, y4⟩ => ?_⟩)⟩⟩
    have w := y4 vs (sq E le)
    rw [hx] at w
    cases w
    exact ⟨T, y1, y2, y3⟩
  · subst h4
    obtain ⟨q, vs, z1, z2, z3⟩ := fz_tup f2
    subst z1
    have sq : ∀ {W3 H3 σ3 e3}, EnvOk A K W3 H3 σ3 e3 → W2.le W3 → SqT K H3 q vs := fun E3 le => .inl (.inl (E3.at_ (le.g _ _ z2) rfl))
    refine ⟨q, vs, rfl, .inr ⟨sq E2 (.refl W2), hp W2 H1 E2 S2 _ (enum_ok z3 (fun i W H σ e E le hi => ⟨vs, sq E le, hi⟩) fun i x W H σ e E le hx => ⟨⟨vs, x, sq E le, hx⟩, fun v H' ⟨T, x', y1, y2, y3, y4⟩ => ?_⟩)⟩⟩
    have w := y4 vs (sq E le)
    rw [hx] at w
    cases w
    exact ⟨T, y1, y2, y3⟩
theorem zip_ok {J : L2.It} {W1 : Wd} {ts us : List T} {vs ws : List V} (f : FzL A W1 ts vs) (g : FzL A W1 us ws) (stop : ∀ i W H σ e, EnvOk A K W H σ e → W1.le W → (vs.length ≤ i ∨ ws.length ≤ i) → J.stop i H)
    (go : ∀ i x y W H σ e, EnvOk A K W H σ e → W1.le W → vs[i]? = some x → ws[i]? = some y → J.go i H ∧ ∀ v H', J.yld i H v H' → ∃ q, v = .ref q ∧ H q = none ∧ H' = upd H q (.tup [x, y])) : ItOk A K none J W1 ((ts.zip us).map pairT) := by
  refine itok_new (vs := (vs.zip ws).map fun p => [p.1, p.2]) (by simp [f.len, g.len]) (fun i t h => ?_) (fun i W H σ e E le hi => stop i W H σ e E le (by simp at hi; omega)) fun i l W H σ e E le h => ?_
  · simp only [List.getElem?_map, Option.map_eq_some_iff, List.getElem?_zip_eq_some, pairT] at h
    obtain ⟨p, ⟨h1, h2⟩, h3⟩ := h
    obtain ⟨v, h4, h5⟩ := f.get h1
    obtain ⟨w, h6, h7⟩ := g.get h2
    refine ⟨_, [v, w], h3.symm, ?_, ?_⟩
    · simp only [List.getElem?_map, Option.map_eq_some_iff, List.getElem?_zip_eq_some]
      exact ⟨(v, w), ⟨h4, h6⟩, rfl⟩
    · simp only [FzL]
      exact ⟨h5, h7, trivial⟩
  · simp only [List.getElem?_map, Option.map_eq_some_iff, List.getElem?_zip_eq_some] at h
    obtain ⟨p, ⟨h1, h2⟩, h3⟩ := h
    subst h3
    exact go i p.1 p.2 W H σ e E le h1 h2
theorem i_zip {elts : List Expr} {kk : Nat} {tpos : Pos} {x : Str} (hx : x = Str.ofString "zip") (hK : X.K = K) (hb : Bn X "zip") (hs : noStar a = true) (hs2 : noStar b = true) (ha : Pe A K XE C X a ia) (hbb : Pe A K XE C X b ib) : Pi A K XE C X (.Tuple elts kk tpos) (.Call (.Name x p) [a, b] [] pos) (.zip ia ib) := by
  subst hx
  refine PI.mono (RZ.pi_zipA hb.gl hb.no (pa_cons ha (pa_cons hbb pa_nil (star_ok hs2 [] _)) (star_ok hs [b] _)) (star_ok hs [b] _) (plain_ok (es := [b]) (by simp [hs2]) _ _)) fun σ H Q hh => ?_
  obtain ⟨W, e, out, e', E, hm, hp⟩ := hh
  simp only [itL] at hm
  have hq : (It.zip ia ib).quiet = true → ia.quiet = true ∧ ib.quiet = true := fun z => by simpa [It.quiet] using z
  refine step E (.refl _ W H e.s σ) hm hp (fun z => (hq z).1) fun r e1 W1 H1 v hm E1 S1 s1 r1 => ?_
  obtain ⟨W2, E2, S2, f2, l2⟩ := res_fz E1 S1 (fun i a w => E.owt i a w) (fun _ z => z) r1
  refine step E2 S2 hm hp (fun z => (hq z).2) fun r' e3 W3 H3 v' hm E3 S3 s3 r3 => ?_
  obtain ⟨W4, E4, S4, f4, l4⟩ := res_fz E3 S3 (fun i a w => E.owt i a w) (fun p z => S2.dom p z) r3
  have f2 := (f2.mono A s3.wle).mono A l4
  obtain ⟨xs, h1, h2, h3⟩ := opt_some hm
  subst h2 h3
  obtain ⟨o, t⟩ := r
  obtain ⟨o', t'⟩ := r'
  rw [hK]
  split at h1
  · rename_i hk
    cases t <;> cases t' <;> simp only [sameKind, Bool.false_eq_true] at hk
    · simp only [seqOf, Option.bind_some, Option.map_some, Option.some.injEq] at h1
      subst h1
      obtain ⟨q, vs, z1, z2, z3⟩ := fz_lst f2
      obtain ⟨q', ws, y1, y2, y3⟩ := fz_lst f4
      subst z1 y1
      have sq : ∀ {W5 H5 σ5 e5}, EnvOk A K W5 H5 σ5 e5 → W4.le W5 → SqL K H5 q vs ∧ SqL K H5 q' ws := fun E5 le => ⟨.inl (.inl (E5.at_ (le.g _ _ z2) rfl)), .inl (.inl (E5.at_ (le.g _ _ y2) rfl))⟩
      refine ⟨q, q', vs, ws, rfl, .inl ⟨(sq E4 (.refl W4)).1, (sq E4 (.refl W4)).2, hp W4 H3 E4 S4 _ (zip_ok z3 y3 (fun i W H σ e E le hi => ⟨vs, ws, (sq E le).1, (sq E le).2, hi⟩) fun i x y W H σ e E le hx hy => ⟨⟨vs, ws, x, y, (sq E le).1, (sq E le).2, hx, hy⟩, fun v H' ⟨T, x', y', u1, u2, u3, u4, u5⟩ => ?_⟩)⟩⟩
      have w := u4 vs (sq E le).1
      have w' := u5 ws (sq E le).2
      rw [hx] at w
      rw [hy] at w'
      cases w
      cases w'
      exact ⟨T, u1, u2, u3⟩
    · simp only [seqOf, Option.bind_some, Option.map_some, Option.some.injEq] at h1
      subst h1
      obtain ⟨q, vs, z1, z2, z3⟩ := fz_tup f2
      obtain ⟨q', ws, y1, y2, y3⟩ := fz_tup f4
      subst z1 y1
      have sq : ∀ {W5 H5 σ5 e5}, EnvOk A K W5 H5 σ5 e5 → W4.le W5 → SqT K H5 q vs ∧ SqT K H5 q' ws := fun E5 le => ⟨.inl (.inl (E5.at_ (le.g _ _ z2) rfl)), .inl (.inl (E5.at_ (le.g _ _ y2) rfl))⟩
      refine ⟨q, q', vs, ws, rfl, .inr ⟨(sq E4 (.refl W4)).1, (sq E4 (.refl W4)).2, hp W4 H3 E4 S4 _ (zip_ok z3 y3 (fun i W H σ e E le hi => ⟨vs, ws, (sq E le).1, (sq E le).2, hi⟩) fun i x y W H σ e E le hx hy => ⟨⟨vs, ws, x, y, (sq E le).1, (sq E le).2, hx, hy⟩, fun v H' ⟨T, x', y', u1, u2, u3, u4, u5⟩ => ?_⟩)⟩⟩
      have w := u4 vs (sq E le).1
      have w' := u5 ws (sq E le).2
      rw [hx] at w
      rw [hy] at w'
      cases w
      cases w'
      exact ⟨T, u1, u2, u3⟩
  · cases h1
end
end PB
end
section
set_option Elab.async false
set_option linter.all false
set_option maxRecDepth 100000
/-! PB24: for; a dict that is walked. -/
namespace PB
open PySem PySem.Spec PyProof.Rows L2
section
variable {A : Cad} {K : PySem.W.Frag} {XE : XK} {C : Orc} {X : Cx} {pos p : Pos} {a b c d : Expr} {ia ib ic id : Ex}
theorem G_nodr {W : Wd} {H : Hp} {σ : L2.St} {e : Ev} (E : EnvOk A K W H σ e) {q : Addr} {o : HO} (g : W.G q = some o) : NoDr W q := fun d hd => by
  rcases hd with hd | ⟨e1, y, e2⟩
  case inr =>
    rcases E.le _ _ g with z | ⟨_, ob, z⟩
    · exact E.tab z (W.gt _ _ g) e1 e2
    · exact E.tab z rfl e1 e2
  have z := E.dr
  unfold DrOk at z
  rw [hd] at z
  obtain ⟨x, y⟩ := d
  cases e1 : e.d with
  | none => rw [e1] at z; exact z.elim
  | some D =>
    rw [e1] at z
    obtain ⟨_, z1, z2, _⟩ := z
    exact ⟨fun w => (by subst w; rw [g] at z1; cases z1), fun w => (by subst w; rw [g] at z2; cases z2)⟩
/-- what the lock says of the heap -/
def LkH (L : Lck) (H : Hp) : Prop := ∀ d u, L = some (d, u) → H d = some u
def LkW (L : Lck) (W : Wd) : Prop := ∀ d u, L = some (d, u) → ∃ o, W.G d = some o
theorem LkH.keep {L : Lck} {W W' : Wd} {H H' : Hp} {s' : List (Option R)} {σ σ' : L2.St} {e : Ev} (h : LkH L H) (w : LkW L W) (E : EnvOk A K W H σ e) (S : Stq W H e.s σ W' H' s' σ') : LkH L H' := fun d u z => by
  obtain ⟨o, g⟩ := w d u z
  exact S.keep d u (h d u z) (fun i w => frozen_not_own E g w) (G_nodr E g)
theorem LkW.mono {L : Lck} {W W' : Wd} (h : LkW L W) (l : W.le W') : LkW L W' := fun d u z => by
  obtain ⟨o, g⟩ := h d u z
  exact ⟨o, l.g _ _ g⟩
theorem for_core {L : Lck} {J : L2.It} {g : Tg} {jb : List St} {xs : List T} {W1 W0 : Wd} {H1 H0 : Hp} {σ σ0 : L2.St} {e1 e' : Ev} {s0 : List (Option R)} {fl : Fl} {D : Ends} (ok : ItOk A K L J W1 xs) (lw : LkW L W1) (lh : LkH L H1) (E1 : EnvOk A K W1 H1 σ e1)
    (S1 : Stq W0 H0 s0 σ0 W1 H1 e1.s σ) (hm : forL g (sts C jb) xs e1 = some (fl, e')) (hp : PostS A K XE W0 H0 s0 σ0 fl e' D) :
    ∃ W : Nat → Nat → L2.St → Hp → Prop, (∃ m, W 0 m σ H1) ∧ ∀ i m σ H, W i m σ H → (J.stop i H ∧ D.nx σ H) ∨ (J.go i H ∧ ∃ N : L2.St → Hp → Prop, (∀ σ' H', N σ' H' → ∃ m', m' < m ∧ W (i + 1) m' σ' H') ∧
      ∀ x H', J.yld i H x H' → gT A K g x σ H' fun σ2 H2 => tS A K XE (sts C jb) { D with nx := N, ct := N, bk := D.nx } σ2 H2) := by
  refine ⟨fun i m σ2 H2 => m + i = xs.length ∧ ∃ W2 e2, EnvOk A K W2 H2 σ2 e2 ∧ W1.le W2 ∧ LkH L H2 ∧ forL g (sts C jb) (xs.drop i) e2 = some (fl, e') ∧ Stq W0 H0 s0 σ0 W2 H2 e2.s σ2, ⟨xs.length, by simp, W1, e1, E1, .refl W1, lh, hm, S1⟩, ?_⟩
  rintro i m σ2 H2 ⟨hmi, W2, e2, E2, le, lk, h, S2⟩
  obtain ⟨st, go⟩ := ok i W2 H2 σ2 e2 E2 le lk
  by_cases hi : i < xs.length
  · have hd : xs.drop i = xs[i] :: xs.drop (i + 1) := List.drop_eq_getElem_cons hi
    rw [hd] at h
    obtain ⟨g1, g2⟩ := go xs[i] (List.getElem?_eq_getElem hi)
    simp only [forL] at h
    cases hb : bindT g xs[i] e2.s with
    | none => rw [hb] at h; cases h
    | some s' =>
      rw [hb] at h
      simp only at h
      cases hq : sts C jb { e2 with s := s' } with
      | none => rw [hq] at h; cases h
      | some y =>
        obtain ⟨f2, e3⟩ := y
        rw [hq] at h
        refine .inr ⟨g1, fun σ3 H3 => (m - 1) + (i + 1) = xs.length ∧ ∃ W2 e2, EnvOk A K W2 H3 σ3 e2 ∧ W1.le W2 ∧ LkH L H3 ∧ forL g (sts C jb) (xs.drop (i + 1)) e2 = some (fl, e') ∧ Stq W0 H0 s0 σ0 W2 H3 e2.s σ3, fun σ' H' z => ⟨m - 1, by omega, z⟩, fun x H' y => ?_⟩
        obtain ⟨W3, E3, S3, f3⟩ := g2 x H' y
        have lk3 : LkH L H' := LkH.keep lk (lw.mono le) E2 S3.q
        refine ⟨W3, e2, xs[i], s', E3, f3, hb, fun σ4 E4 S4 _ => ⟨W3, _, f2, e3, E4, hq, fun W5 H5 σ5 E5 S5 => ?_⟩⟩
        have S45 := S4.trans S5
        have S25 := (S2.trans S3.q).trans S45
        have lk5 : LkH L H5 := LkH.keep lk3 ((lw.mono le).mono S3.wle) E3 S45
        have again : forL g (sts C jb) (xs.drop (i + 1)) e3 = some (fl, e') → (m - 1) + (i + 1) = xs.length ∧ ∃ W2 e2, EnvOk A K W2 H5 σ5 e2 ∧ W1.le W2 ∧ LkH L H5 ∧ forL g (sts C jb) (xs.drop (i + 1)) e2 = some (fl, e') ∧ Stq W0 H0 s0 σ0 W2 H5 e2.s σ5 := fun z =>
          ⟨by omega, W5, e3, E5, (le.trans S3.wle).trans S45.wle, lk5, z, S25⟩
        cases f2 with
        | next => exact again h
        | cont => exact again h
        | brk => cases h; exact hp W5 H5 σ5 E5 S25
        | ret r => cases h; exact fun v rr => hp W5 H5 σ5 E5 S25 v (rr.from ((S2.trans S3.q).trans S4))
        | exc C fs => cases h; exact hp W5 H5 σ5 E5 S25
  · have hd : xs.drop i = [] := List.drop_eq_nil_of_le (by omega)
    rw [hd] at h
    simp only [forL] at h
    cases h
    exact .inl ⟨st (by omega), hp W2 H2 σ2 E2 S2⟩
/-- a dict walked by its keys -/
theorem itok_key {W1 : Wd} {q : Addr} {o : Obj} {kvs : List (Key × T)} {ws : List (Key × V)} (f : FzK A W1 kvs ws) : ItOk A K (some (q, .frz o (.dK ws))) (Itk q o ws) W1 (kvs.map fun p => keyT p.1) := by
  intro i W H σ e E le lk
  have hq := lk _ _ rfl
  have fl := keysK_fz f
  refine ⟨fun hi => ⟨hq, by have := fl.len; simp at this hi; omega⟩, fun t ht => ?_⟩
  obtain ⟨v, h1, h2⟩ := fl.get ht
  refine ⟨⟨hq, by have := get_lt h1; simpa using this⟩, fun x H' ⟨e1, k, w, e2, e3⟩ => ?_⟩
  subst e1 e3
  simp only [List.getElem?_map, e2, Option.map_some, Option.some.injEq] at h1
  subst h1
  exact ⟨W, E, .refl _ _ _ _ _, h2.mono A le⟩
theorem keysT_get {W1 : Wd} : ∀ {kvs : List (List Key × T)} {ws : List (List Key × V)}, FzT A W1 kvs ws → ∀ {i : Nat} {k : List Key} {v : V}, ws[i]? = some (k, v) → ∃ t, kvs[i]? = some (k, t)
  | [], [], _, i, k, v, h => by simp at h
  | (k1, t) :: ts, (k2, w) :: vs, f, i, k, v, h => by
    simp only [FzT] at f
    obtain ⟨e1, _, f2⟩ := f
    subst e1
    cases i with
    | zero => simp at h; exact ⟨t, by simp [h.1]⟩
    | succ i => simpa using keysT_get f2 (by simpa using h)
  | [], _ :: _, f, _, _, _, _ => by simp only [FzT] at f
  | _ :: _, [], f, _, _, _, _ => by simp only [FzT] at f
theorem itok_keyT {W1 : Wd} {q : Addr} {o : Obj} {kvs : List (List Key × T)} {ws : List (List Key × V)} (f : FzT A W1 kvs ws) : ItOk A K (some (q, .frz o (.dT ws))) (Itkt q o ws) W1 (kvs.map fun p => .tup (p.1.map keyT)) := by
  intro i W H σ e E le lk
  have hq := lk _ _ rfl
  have hl := (anyT_fz [] f).2
  refine ⟨fun hi => ⟨hq, by simp at hi; omega⟩, fun t ht => ?_⟩
  simp only [List.getElem?_map, Option.map_eq_some_iff] at ht
  obtain ⟨⟨k0, t0⟩, h1, h2⟩ := ht
  refine ⟨⟨hq, by have := get_lt h1; omega⟩, fun x H' ⟨e1, k, w, qq, e2, e3, e4⟩ => ?_⟩
  subst e1 e3 h2
  obtain ⟨t2, z⟩ := keysT_get f e2
  rw [h1] at z
  cases z
  -- the key's tuple stands still from now on
  have nd : NoDr W qq := fun d hd => by
    rcases hd with hd | ⟨e1, y, e2⟩
    case inr => exact E.tab e4 rfl e1 e2
    have z := E.dr
    unfold DrOk at z
    rw [hd] at z
    obtain ⟨x, y⟩ := d
    cases ed : e.d with
    | none => rw [ed] at z; exact z.elim
    | some D =>
      rw [ed] at z
      obtain ⟨_, _, _, z1, z2⟩ := z
      exact ⟨fun w => (by subst w; rw [e4] at z1; cases z1), fun w => (by subst w; rw [e4] at z2; cases z2)⟩
  have now : ∀ i, ¬ Ow e.s σ i qq := fun i w => by
    obtain ⟨t, _, _, o, ho, r⟩ := Ow.there E w
    rw [e4] at ho
    cases ho
    cases t <;> simp only [OwnO] at r
    · obtain ⟨_, e1, _⟩ := r; cases e1
    · obtain ⟨_, e1, _⟩ := r; cases e1
    · obtain ⟨_, e1, _⟩ := r; cases e1
    · obtain ⟨_, _, e1, _⟩ := r; cases e1
  cases gq : W.G qq with
  | some o' =>
    refine ⟨W, E, .refl _ _ _ _ _, ?_⟩
    simp only [Fz]
    refine ⟨qq, k0.map kV, rfl, ?_, keysL_fz k0⟩
    rcases E.le _ _ gq with z | ⟨_, ob, z⟩
    · rw [e4] at z; cases z; exact gq
    · rw [e4] at z; cases z
  | none =>
    have z := add_ok (q := true) (B := fun a => a = qq) (s' := e.s) E (.refl _ W _ e.s σ) (fun a b => by
      subst b
      exact ⟨nd, gq, .inr (.inr ⟨_, e4⟩)⟩) (Frzn.refl σ fun i a w b => by subst b; exact now i w)
    refine ⟨_, z.1, z.2, ?_⟩
    simp only [Fz]
    refine ⟨qq, k0.map kV, rfl, ?_, keysL_fz k0⟩
    exact Wd.add_in (B := fun a => a = qq) gq rfl e4 rfl
theorem lock_ok {W : Wd} {H : Hp} {σ : L2.St} {e : Ev} {q : Addr} {u : HO} {od : Obj} (E : EnvOk A K W H σ e) (g : W.G q = some u) (du : isDO u = true) (hq : H q = some u) : EnvOk A K W (upd H q (.frz od u)) σ e := by
  have nd := G_nodr E g
  refine ⟨fun a o h => ?_, ?_, ?_, E.len, fun i r h => ?_, E.dj, E.nd⟩
  · by_cases c : a = q
    · subst c
      rw [g] at h
      cases h
      exact .inr ⟨du, od, upd_same⟩
    · rw [upd_ne c]
      exact E.le a o h
  · have z := E.dr
    unfold DrOk at z ⊢
    cases e1 : e.d with
    | none =>
      rw [e1] at z
      cases e2 : W.dr with
      | none => trivial
      | some d => rw [e2] at z; exact z
    | some D =>
      rw [e1] at z
      cases e2 : W.dr with
      | none => rw [e2] at z; exact z
      | some d =>
        rw [e2] at z
        obtain ⟨x, y⟩ := d
        obtain ⟨z1, z2, z3, z4, z5⟩ := z
        have w := nd _ (.inl e2)
        exact ⟨z1, z2, z3, by rw [upd_ne (Ne.symm w.1)]; exact z4, by rw [upd_ne (Ne.symm w.2)]; exact z5⟩
  · obtain ⟨z1, z2⟩ := E.sc
    refine ⟨⟨z1.1, tabs_upd z1.2 fun o h => by rw [hq] at h; cases h; exact isDO_tx du⟩, z2.imp (fun ⟨o, ho⟩ => ⟨o, ?_⟩) id⟩
    rw [upd_ne (fun z => by rw [z, hq] at ho; cases ho; cases du)]
    exact ho
  · obtain ⟨v, h1, h2⟩ := E.sl i r h
    refine ⟨v, h1, ?_⟩
    obtain ⟨o, t⟩ := r
    cases o with
    | false => exact h2
    | true =>
      obtain ⟨p, e1, g2, o, ho, ow⟩ := (show ∃ p, v = .ref p ∧ Own A W H t p from h2)
      exact (show ∃ p, v = .ref p ∧ Own A W (upd H q (.frz od u)) t p from ⟨p, e1, g2, o, by rw [upd_ne (fun z => by rw [z, g] at g2; cases g2)]; exact ho, ow⟩)
theorem unlock_ok {W : Wd} {H : Hp} {σ : L2.St} {e : Ev} {q : Addr} {u : HO} {od : Obj} (E : EnvOk A K W H σ e) (g : W.G q = some u) (hq : H q = some (.frz od u)) (du : isDO u = true) : EnvOk A K W (upd H q u) σ e := by
  have nd := G_nodr E g
  refine ⟨fun a o h => ?_, ?_, ?_, E.len, fun i r h => ?_, E.dj, E.nd⟩
  · by_cases c : a = q
    · subst c
      rw [g] at h
      cases h
      exact .inl upd_same
    · rw [upd_ne c]
      exact E.le a o h
  · have z := E.dr
    unfold DrOk at z ⊢
    cases e1 : e.d with
    | none =>
      rw [e1] at z
      cases e2 : W.dr with
      | none => trivial
      | some d => rw [e2] at z; exact z
    | some D =>
      rw [e1] at z
      cases e2 : W.dr with
      | none => rw [e2] at z; exact z
      | some d =>
        rw [e2] at z
        obtain ⟨x, y⟩ := d
        obtain ⟨z1, z2, z3, z4, z5⟩ := z
        have w := nd _ (.inl e2)
        exact ⟨z1, z2, z3, by rw [upd_ne (Ne.symm w.1)]; exact z4, by rw [upd_ne (Ne.symm w.2)]; exact z5⟩
  · obtain ⟨z1, z2⟩ := E.sc
    refine ⟨⟨z1.1, tabs_upd z1.2 fun o h => by rw [hq] at h; cases h; rfl⟩, z2.imp (fun ⟨o, ho⟩ => ⟨o, ?_⟩) id⟩
    rw [upd_ne (fun z => by rw [z, hq] at ho; cases ho; cases du)]
    exact ho
  · obtain ⟨v, h1, h2⟩ := E.sl i r h
    refine ⟨v, h1, ?_⟩
    obtain ⟨o, t⟩ := r
    cases o with
    | false => exact h2
    | true =>
      obtain ⟨p, e1, g2, o, ho, ow⟩ := (show ∃ p, v = .ref p ∧ Own A W H t p from h2)
      exact (show ∃ p, v = .ref p ∧ Own A W (upd H q u) t p from ⟨p, e1, g2, o, by rw [upd_ne (fun z => by rw [z, g] at g2; cases g2)]; exact ho, ow⟩)
end
end PB
end
section
set_option Elab.async false
set_option linter.all false
set_option maxRecDepth 100000
/-! PB25: for, whole. -/
namespace PB
open PySem PySem.Spec PyProof.Rows L2
section
variable {A : Cad} {K : PySem.W.Frag} {XE : XK} {C : Orc} {X : Cx} {pos p : Pos} {a b c d : Expr} {ia ib ic id : Ex}
theorem fold_ok {e : Expr} (h : notSet e = true) (env : Env) : ∀ x, foldedSetIterable e env x = pure x := by
  cases e <;> first | (intro x; rfl) | cases h
theorem dictAt_some {it : It} {s : List (Option R)} {i : Nat} {xs : List T} (h : dictAt it s = some (i, xs)) : it = .seq (.var i) ∧ ∃ o x, s[i]? = some (some (o, x)) ∧ x.isD = true ∧ itemsT x = some xs := by
  unfold dictAt at h
  split at h
  · rename_i j
    split at h
    · rename_i o x hx
      split at h
      · rename_i hd
        simp only [Option.map_eq_some_iff, Prod.mk.injEq] at h
        obtain ⟨l, h1, h2, h3⟩ := h
        subst h2 h3
        exact ⟨rfl, o, x, hx, hd, h1⟩
      · cases h
    · cases h
  · cases h
/-- the dict at q as it stands: its walk -/
theorem dict_walk {W : Wd} {H : Hp} {σ : L2.St} {e : Ev} {x : T} {v : V} {xs : List T} (E : EnvOk A K W H σ e) (f : Fz A W x v) (hd : x.isD = true) (hx : itemsT x = some xs) :
    ∃ q u, v = .ref q ∧ W.G q = some u ∧ isDO u = true ∧ Mut (some u) ∧ (H q = some u ∨ ∃ od, H q = some (.frz od u)) ∧ ∀ od, ∃ J, ItOk A K (some (q, .frz od u)) J W xs ∧
      ∀ (i : Nat) (σ' : L2.St) (H' : Hp) (R : L2.It → Hp → Prop), σ'[i]? = some (some (.ref q)) → H' q = some (.frz od u) → R J H' → iKeys (tVar i) σ' H' R := by
  cases x <;> simp only [T.isD, Bool.false_eq_true] at hd
  · simp only [itemsT, Option.some.injEq] at hx
    subst hx
    simp only [Fz] at f
    obtain ⟨q, ws, e1, g, f⟩ := f
    exact ⟨q, _, e1, g, rfl, trivial, (E.le _ _ g).imp id (fun z => z.2), fun od => ⟨Itk q od ws, itok_key f, fun i σ' H' R hs h r => ⟨.ref q, hs, q, od, rfl, .inl ⟨ws, h, r⟩⟩⟩⟩
  · simp only [itemsT, Option.some.injEq] at hx
    subst hx
    simp only [Fz] at f
    obtain ⟨q, ws, e1, g, f⟩ := f
    exact ⟨q, _, e1, g, rfl, trivial, (E.le _ _ g).imp id (fun z => z.2), fun od => ⟨Itkt q od ws, itok_keyT f, fun i σ' H' R hs h r => ⟨.ref q, hs, q, od, rfl, .inr ⟨ws, h, r⟩⟩⟩⟩
/-- the iterable: a name whose dict may be walked, or another -/
structure ItX (A : Cad) (K : PySem.W.Frag) (XE : XK) (C : Orc) (X : Cx) (tg iter : Expr) (it : It) : Prop where
  pi : Pi A K XE C X tg iter it
  var : ∀ i, it = .seq (.var i) → PE X iter (tVar i)
theorem s_for {tg iter : Expr} {it : It} {g : Tg} {sb : List Stmt} {jb : List St} (hpo : PassesOwn (model X.prog X.w) X.A X.env X.xe) (hc : X.calm = true) (hi : ItX A K XE C X tg iter it) (hg : Pg A K X tg g) (hb : Pss A K XE C X sb jb) (hs : notSet iter = true) :
    Ps A K XE C X (.For tg iter sb [] pos) (.for g it jb) := by
  refine ⟨fun pins s σ H D I hh => ?_⟩
  obtain ⟨W, e, fl, e', E, hm, hp⟩ := hh
  simp only [st] at hm
  cases hda : dictAt it e.s with
  | none =>
    rw [hda] at hm
    refine (ps_for hpo hc hi.pi hg hb (fold_ok hs _)).run pins s σ H D I ?_
    refine stepS (Rl := rI A K) E (.refl _ _ _ _) hm hp fun xs e1 W1 H1 J hm E1 S1 s1 ok => ?_
    exact for_core (L := none) ok (fun d u z => by cases z) (fun d u z => by cases z) E1 S1 hm hp
  | some z =>
    obtain ⟨i, xs⟩ := z
    rw [hda] at hm
    obtain ⟨h1, o, x, h2, h3, h4⟩ := dictAt_some hda
    obtain ⟨v, hv, _⟩ := E.sl i _ h2
    obtain ⟨W1, E1, S1, f1⟩ := frz1_ok (q := false) E (.refl false W H e.s σ) h2 hv
    obtain ⟨q, u, e1, g1, du, mu, hq, wk⟩ := dict_walk E1 f1 h3 h4
    subst e1
    have hne : ∀ C fs, fl ≠ .exc C fs := fun C0 fs z => by
      subst z
      simp only [noExS] at hm
      split at hm
      · cases hm
      · rename_i hn
        exact hn _ _ _ hm
    have hm2 : forL g (sts C jb) xs { e with s := frz1 i e.s } = some (fl, e') := by
      simp only [noExS] at hm
      split at hm
      · cases hm
      · exact hm
    have hpi := ps_for hpo hc (pi_keys (hi.var i h1)) hg hb (fold_ok hs _) (pos := pos)
    rcases hq with hq | ⟨od, hq⟩
    · -- not locked yet
      refine (ps_lock hpi).run pins s σ H D I ⟨q, u, hq, mu, fun od => ?_⟩
      obtain ⟨J, ok, kk⟩ := wk od
      have E2 := lock_ok (od := od) E1 g1 du hq
      unfold tFor
      refine kk i σ _ _ hv upd_same ?_
      refine for_core ok (fun d u' z => by cases z; exact ⟨u, g1⟩) (fun d u' z => by cases z; exact upd_same) E2 (.refl _ _ _ _) hm2 ?_
      intro W' H' σ' E' S'
      have hk : H' q = some (.frz od u) := S'.keep q _ upd_same (fun j w => frozen_not_own E2 g1 w) (G_nodr E2 g1)
      have E3 := unlock_ok E' (S'.wle.g _ _ g1) hk du
      have S3 : Stq W H e.s σ W' (upd H' q u) e'.s σ' := S1.q.trans {
        wle := S'.wle
        keep := fun a o ha n nd => by
          by_cases c : a = q
          · subst c; rw [hq] at ha; cases ha; exact upd_same
          · rw [upd_ne c]
            exact S'.keep a o (by rw [upd_ne c]; exact ha) n nd
        dom := fun a ha => by
          by_cases c : a = q
          · subst c; rw [upd_same] at ha; cases ha
          · rw [upd_ne c] at ha
            have z := S'.dom a ha
            rw [upd_ne c] at z
            exact z
        new := fun a o ha => by
          rcases S'.new a o ha with z | z | z | z
          · exact .inl z
          · exact .inr (.inl z)
          · refine .inr (.inr (.inl ?_))
            by_cases c : a = q
            · subst c; rw [upd_same] at z; cases z
            · rw [upd_ne c] at z; exact z
          · exact .inr (.inr (.inr z))
        own := fun j p w => by
          rcases S'.own j p w with z | z
          · exact .inl z
          · refine .inr ?_
            by_cases c : p = q
            · subst c; rw [upd_same] at z; cases z
            · rw [upd_ne c] at z; exact z
        drn := fun d hd => by
          have nn : ∀ a, upd H q (.frz od u) a = none → H a = none := fun a z => by
            by_cases c : a = q
            · subst c; rw [upd_same] at z; cases z
            · rw [upd_ne c] at z; exact z
          rcases S'.drn d hd with z | ⟨z1, z2⟩
          · exact .inl z
          · exact .inr ⟨nn _ z1, nn _ z2⟩
        fx := S'.fx }
      have z := hp W' (upd H' q u) σ' E3 S3
      cases fl with
      | next => exact ⟨hk, z⟩
      | brk => exact ⟨hk, z⟩
      | cont => exact ⟨hk, z⟩
      | exc C0 fs => exact (hne C0 fs rfl).elim
      | ret r =>
        intro v rr
        refine ⟨hk, z v ?_⟩
        obtain ⟨o, t⟩ := r
        cases o with
        | false => exact rr
        | true =>
          obtain ⟨p, e2, ⟨g2, ob, hob, ow⟩, hn, nd⟩ := (show ∃ p, v = .ref p ∧ Own A W' H' t p ∧ (upd H q (.frz od u) p = none ∨ ∃ j, Ow (frz1 i e.s) σ j p) ∧ NoDr W' p from rr)
          have npq : p ≠ q := fun z => by rw [z, S'.wle.g _ _ g1] at g2; cases g2
          refine (show ∃ p, v = .ref p ∧ Own A W' (upd H' q u) t p ∧ (H p = none ∨ ∃ j, Ow e.s σ j p) ∧ NoDr W' p from ⟨p, e2, ⟨g2, ob, by rw [upd_ne npq]; exact hob, ow⟩, ?_, nd⟩)
          rcases hn with z | ⟨j, z⟩
          · rw [upd_ne npq] at z; exact .inl z
          · exact .inr ⟨j, S1.own j p z⟩
    · -- locked by another
      refine hpi.run pins s σ H D I ?_
      obtain ⟨J, ok, kk⟩ := wk od
      unfold tFor
      refine kk i σ _ _ hv hq ?_
      exact for_core ok (fun d u' z => by cases z; exact ⟨u, g1⟩) (fun d u' z => by cases z; exact hq) E1 S1.q hm2 hp
end
end PB
end
section
set_option Elab.async false
set_option linter.all false
set_option maxRecDepth 100000
/-! PB26: a comprehension's block: its own names, its new object. -/
namespace PB
open PySem PySem.Spec PyProof.Rows L2
section
variable {A : Cad} {K : PySem.W.Frag} {XE : XK} {C : Orc} {X : Cx} {pos p : Pos} {a b c d : Expr} {ia ib ic id : Ex}
theorem wipeT_len (s : List (Option R)) : ∀ own, (wipeT s own).length = s.length
  | [] => rfl
  | v :: vs => by simp only [wipeT, List.length_set, wipeT_len s vs]
theorem wipeT_out {s : List (Option R)} {j : Nat} : ∀ {own : List Nat}, j ∉ own → (wipeT s own)[j]? = s[j]?
  | [], _ => rfl
  | v :: vs, h => by
    simp only [List.mem_cons, not_or] at h
    simp only [wipeT]
    rw [List.getElem?_set_ne (Ne.symm h.1)]
    exact wipeT_out h.2
theorem wipeT_in {s : List (Option R)} {j : Nat} {r : R} : ∀ {own : List Nat}, j ∈ own → (wipeT s own)[j]? ≠ some (some r)
  | v :: vs, h => by
    simp only [wipeT]
    by_cases c : v = j
    · subst c
      intro z
      rw [List.getElem?_set_self (by have := get_lt z; simpa using this)] at z
      cases z
    · rw [List.getElem?_set_ne c]
      exact wipeT_in (by simpa [Ne.symm c] using h)
theorem wipe_out {σ : L2.St} {j : Nat} : ∀ {own : List Nat}, j ∉ own → (wipe σ own)[j]? = σ[j]?
  | [], _ => rfl
  | v :: vs, h => by
    simp only [List.mem_cons, not_or] at h
    simp only [wipe]
    rw [List.getElem?_set_ne (Ne.symm h.1)]
    exact wipe_out h.2
theorem wipe_in {σ : L2.St} {j : Nat} : ∀ {own : List Nat}, j ∈ own → (wipe σ own)[j]? = if j < σ.length then some none else none
  | v :: vs, h => by
    simp only [wipe]
    by_cases c : v = j
    · subst c
      by_cases hl : v < σ.length
      · rw [if_pos hl, List.getElem?_set_self (by rw [wipe_length]; exact hl)]
      · rw [if_neg hl, List.getElem?_eq_none (by rw [List.length_set, wipe_length]; omega)]
    · rw [List.getElem?_set_ne c]
      exact wipe_in (by simpa [Ne.symm c] using h)
theorem wipe_same {σ σ' : L2.St} {l own : List Nat} (h : SameOut l (wipe σ own) σ') (hl : ∀ j ∈ l, j ∈ own) : wipe σ' own = wipe σ own := by
  have hlen : σ'.length = σ.length := by rw [h.1, wipe_length]
  refine List.ext_getElem? fun j => ?_
  by_cases c : j ∈ own
  · rw [wipe_in c, wipe_in c, hlen]
  · rw [wipe_out c, wipe_out c, h.2 j fun z => c (hl j z), wipe_out c]
theorem back_len (s s2 : List (Option R)) : ∀ own, (back s s2 own).length = s2.length
  | [] => rfl
  | v :: vs => by simp only [back, List.length_set, back_len s s2 vs]
theorem back_out {s s2 : List (Option R)} {j : Nat} : ∀ {own : List Nat}, j ∉ own → (back s s2 own)[j]? = s2[j]?
  | [], _ => rfl
  | v :: vs, h => by
    simp only [List.mem_cons, not_or] at h
    simp only [back]
    rw [List.getElem?_set_ne (Ne.symm h.1)]
    exact back_out h.2
theorem back_in {s s2 : List (Option R)} {j : Nat} {r : R} : ∀ {own : List Nat}, j ∈ own → (back s s2 own)[j]? = some (some r) → s[j]? = some (some r)
  | v :: vs, h, z => by
    simp only [back] at z
    by_cases c : v = j
    · subst c
      rw [List.getElem?_set_self (by have := get_lt z; simpa using this)] at z
      cases y : s[v]? with
      | none => rw [y] at z; cases z
      | some x => rw [y] at z; simpa using z
    · rw [List.getElem?_set_ne c] at z
      exact back_in (by simpa [Ne.symm c] using h) z
mutual
theorem bindT_out : ∀ {g : Tg} {t : T} {s s' : List (Option R)}, bindT g t s = some s' → s'.length = s.length ∧ ∀ j, s'[j]? = s[j]? ∨ (j ∈ g.slots ∧ ∃ u, s'[j]? = some (some (false, u)))
  | .nm i, t, s, s', h => by
    simp only [bindT] at h
    split at h
    · rename_i hi
      cases h
      refine ⟨by simp, fun j => ?_⟩
      by_cases c : i = j
      · subst c
        exact .inr ⟨by simp [Tg.slots], t, List.getElem?_set_self hi.2⟩
      · exact .inl (List.getElem?_set_ne c)
    · cases h
  | .tp l, t, s, s', h => by
    cases t <;> simp only [bindT, reduceCtorEq] at h
    · split at h
      · obtain ⟨h1, h2⟩ := bindTs_out h
        exact ⟨h1, fun j => (h2 j).imp id fun z => ⟨by simp only [Tg.slots]; exact z.1, z.2⟩⟩
      · cases h
    · split at h
      · obtain ⟨h1, h2⟩ := bindTs_out h
        exact ⟨h1, fun j => (h2 j).imp id fun z => ⟨by simp only [Tg.slots]; exact z.1, z.2⟩⟩
      · cases h
theorem bindTs_out : ∀ {g : List Tg} {t : List T} {s s' : List (Option R)}, bindTs g t s = some s' → s'.length = s.length ∧ ∀ j, s'[j]? = s[j]? ∨ (j ∈ Tg.slotss g ∧ ∃ u, s'[j]? = some (some (false, u)))
  | [], [], s, s', h => by
    simp only [bindTs, Option.some.injEq] at h
    subst h
    exact ⟨rfl, fun j => .inl rfl⟩
  | g :: gs, t :: ts, s, s', h => by
    simp only [bindTs] at h
    cases hb : bindT g t s with
    | none => rw [hb] at h; cases h
    | some s1 =>
      rw [hb] at h
      obtain ⟨h1, h2⟩ := bindT_out hb
      obtain ⟨h3, h4⟩ := bindTs_out h
      refine ⟨h3.trans h1, fun j => ?_⟩
      rcases h4 j with z | ⟨z1, z2⟩
      · rcases h2 j with y | ⟨y1, u, y2⟩
        · exact .inl (z.trans y)
        · exact .inr ⟨by simp [Tg.slotss, y1], u, z.trans y2⟩
      · exact .inr ⟨by simp [Tg.slotss, z1], z2⟩
  | [], _ :: _, _, _, h => by simp only [bindTs, reduceCtorEq] at h
  | _ :: _, [], _, _, h => by simp only [bindTs, reduceCtorEq] at h
end
/-- the block's own names are forgotten -/
theorem EnvOk.wipe {W : Wd} {H : Hp} {σ : L2.St} {e : Ev} (E : EnvOk A K W H σ e) (own : List Nat) : EnvOk A K W H (L2.wipe σ own) ⟨wipeT e.s own, e.d⟩ := by
  have ow : ∀ {j q}, Ow (wipeT e.s own) (L2.wipe σ own) j q → Ow e.s σ j q := fun {j q} ⟨⟨t, h1⟩, h2⟩ => by
    by_cases c : j ∈ own
    · exact (wipeT_in c h1).elim
    · rw [wipeT_out c] at h1
      rw [wipe_out c] at h2
      exact ⟨⟨t, h1⟩, h2⟩
  refine ⟨E.le, E.dr, E.sc, by rw [wipeT_len, wipe_length]; exact E.len, fun j r h => ?_, fun i j q h1 h2 => E.dj i j q (ow h1) (ow h2), fun i q h => E.nd i q (ow h)⟩
  by_cases c : j ∈ own
  · exact (wipeT_in c h).elim
  · rw [wipeT_out c] at h
    rw [wipe_out c]
    exact E.sl j r h
theorem ow_wipe {s : List (Option R)} {σ : L2.St} {own : List Nat} {j : Nat} {q : Addr} (h : Ow (wipeT s own) (L2.wipe σ own) j q) : j ∉ own ∧ Ow s σ j q := by
  obtain ⟨⟨t, h1⟩, h2⟩ := h
  by_cases c : j ∈ own
  · exact (wipeT_in c h1).elim
  · rw [wipeT_out c] at h1
    rw [wipe_out c] at h2
    exact ⟨c, ⟨t, h1⟩, h2⟩
theorem ow_wiped {s : List (Option R)} {σ : L2.St} {own : List Nat} {j : Nat} {q : Addr} (c : j ∉ own) (h : Ow s σ j q) : Ow (wipeT s own) (L2.wipe σ own) j q := by
  obtain ⟨⟨t, h1⟩, h2⟩ := h
  exact ⟨⟨t, by rw [wipeT_out c]; exact h1⟩, by rw [wipe_out c]; exact h2⟩
/-- the block is left: the names as they were -/
theorem blk_end {q : Bool} {W1 W2 : Wd} {H1 H2 : Hp} {σ : L2.St} {e1 : Ev} {s2 : List (Option R)} {d2 : Option Draw} {own : List Nat} (E1 : EnvOk A K W1 H1 σ e1) (E2 : EnvOk A K W2 H2 (L2.wipe σ own) ⟨wipeT s2 own, d2⟩)
    (S : Stp q W1 H1 (wipeT e1.s own) (L2.wipe σ own) W2 H2 (wipeT s2 own)) : EnvOk A K W2 H2 σ ⟨back e1.s s2 own, d2⟩ ∧ Stp q W1 H1 e1.s σ W2 H2 (back e1.s s2 own) := by
  have owb : ∀ {j p}, Ow (back e1.s s2 own) σ j p → (j ∈ own ∧ Ow e1.s σ j p) ∨ (j ∉ own ∧ Ow (wipeT s2 own) (L2.wipe σ own) j p) := fun {j p} ⟨⟨t, h1⟩, h2⟩ => by
    by_cases c : j ∈ own
    · exact .inl ⟨c, ⟨t, back_in c h1⟩, h2⟩
    · rw [back_out c] at h1
      exact .inr ⟨c, ow_wiped c ⟨⟨t, h1⟩, h2⟩⟩
  have ow1 : ∀ {j p}, Ow (back e1.s s2 own) σ j p → Ow e1.s σ j p := fun {j p} h => by
    rcases owb h with ⟨_, z⟩ | ⟨_, z⟩
    · exact z
    · exact (ow_wipe (S.own j p z)).2
  have hlen : (back e1.s s2 own).length = σ.length := by
    rw [back_len]
    have z := E2.len
    simp only [wipeT_len, wipe_length] at z
    exact z
  refine ⟨⟨E2.le, E2.dr, E2.sc, hlen, fun j r h => ?_, fun i j p h1 h2 => E1.dj i j p (ow1 h1) (ow1 h2), fun i p h => ?_⟩, ⟨S.wle, fun a o h n nd => ?_, S.dom, fun a o h => ?_, fun i p h => ow1 h, S.drn⟩⟩
  · by_cases c : j ∈ own
    · have h1 := back_in c h
      obtain ⟨v, hv, sl⟩ := E1.sl j r h1
      refine ⟨v, hv, ?_⟩
      obtain ⟨o, t⟩ := r
      cases o with
      | false => exact Fz.mono A S.wle sl
      | true =>
        obtain ⟨p, e2, ow⟩ := (show ∃ p, v = .ref p ∧ Own A W1 H1 t p from sl)
        have w : Ow e1.s σ j p := ⟨⟨t, h1⟩, by rw [hv, e2]⟩
        refine (show ∃ p, v = .ref p ∧ Own A W2 H2 t p from ⟨p, e2, own_keep E2 S ow (fun i z => ?_) (E1.nd j p w)⟩)
        obtain ⟨c2, z2⟩ := ow_wipe z
        rw [E1.dj i j p z2 w] at c2
        exact c2 c
    · rw [back_out c] at h
      obtain ⟨v, h1, h2⟩ := E2.sl j r (by rw [wipeT_out c]; exact h)
      rw [wipe_out c] at h1
      exact ⟨v, h1, h2⟩
  · refine S.nodr ?_ (E1.nd i p (ow1 h))
    obtain ⟨_, _, _, o, ho, _⟩ := Ow.there E1 (ow1 h)
    rw [ho]; simp
  · refine S.keep a o h (n.imp id fun n i z => n i (ow_wipe z).2) nd
  · rcases S.new a o h with z | ⟨i, z⟩ | z | z
    · exact .inl z
    · exact .inr (.inl ⟨i, (ow_wipe z).2⟩)
    · exact .inr (.inr (.inl z))
    · exact .inr (.inr (.inr z))
/-- a turn: the names bound, the expressions, the names forgotten -/
theorem blk_turn {q : Bool} {W W' : Wd} {H H' : Hp} {σ σ3 : L2.St} {s s3 s5 : List (Option R)} {own l : List Nat} (ho : SameOut l (L2.wipe σ own) σ3) (hl : ∀ j ∈ l, j ∈ own) (hb : s3.length = (wipeT s own).length ∧ ∀ j, s3[j]? = (wipeT s own)[j]? ∨ (j ∈ l ∧ ∃ u, s3[j]? = some (some (false, u))))
    (S : Stp q W H s3 σ3 W' H' s5) : Stp q W H (wipeT s own) (L2.wipe σ own) W' H' (wipeT s5 own) := by
  have ow3 : ∀ {i p}, Ow s3 σ3 i p → i ∉ own ∧ Ow (wipeT s own) (L2.wipe σ own) i p := fun {i p} ⟨⟨t, h1⟩, h2⟩ => by
    rcases hb.2 i with z | ⟨_, u, z⟩
    · rw [z] at h1
      by_cases c : i ∈ own
      · exact (wipeT_in c h1).elim
      · rw [ho.2 i fun z => c (hl i z)] at h2
        exact ⟨c, ⟨t, h1⟩, h2⟩
    · rw [z] at h1; cases h1
  have hw := wipe_same ho hl
  refine ⟨S.wle, fun a o h n nd => S.keep a o h (n.imp id fun n i z => n i (ow3 z).2) nd, S.dom, fun a o h => ?_, fun i p h => ?_, S.drn⟩
  · rcases S.new a o h with z | ⟨i, z⟩ | z | z
    · exact .inl z
    · exact .inr (.inl ⟨i, (ow3 z).2⟩)
    · exact .inr (.inr (.inl z))
    · exact .inr (.inr (.inr z))
  · rw [← hw] at h
    exact (ow3 (S.own i p (ow_wipe h).2)).2
/-- the new object at D: no slot's, not standing still -/
structure Free (W : Wd) (H : Hp) (s : List (Option R)) (σ : L2.St) (D : Addr) : Prop where
  g : W.G D = none
  n : ∀ i, ¬ Ow s σ i D
  d : NoDr W D
theorem Free.keep {q : Bool} {W W' : Wd} {H H' : Hp} {s s' : List (Option R)} {σ σ' : L2.St} {e' : Ev} {D : Addr} {o : HO} (F : Free W H s σ D) (E' : EnvOk A K W' H' σ' e') (S : Stp q W H s σ W' H' s') (ho : H D = some o) (nf : ∀ vs, o ≠ .tup vs) : Free W' H' s' σ D ∧ H' D = some o := by
  have h' := S.keep D o ho (.inr F.n) F.d
  refine ⟨⟨?_, fun i w => F.n i (S.own i D w), S.nodr (by rw [ho]; simp) F.d⟩, h'⟩
  cases z : W'.G D with
  | none => rfl
  | some o' =>
    exfalso
    rcases S.new D o' z with w | ⟨i, w⟩ | w | ⟨vs, w⟩
    · rw [F.g] at w; cases w
    · exact F.n i w
    · rw [ho] at w; cases w
    · subst w
      have w := E'.at_ z rfl
      rw [h'] at w
      cases w
      exact nf vs rfl
theorem free_upd {q : Bool} {W0 W : Wd} {H0 H : Hp} {s0 : List (Option R)} {σ : L2.St} {e : Ev} {D : Addr} {o : HO} (F : Free W H e.s σ D) (E : EnvOk A K W H σ e) (S : Stp q W0 H0 s0 σ W H e.s) (h0 : H0 D = none) (hD : ∀ ob xs, H D ≠ some (.frz ob xs)) (hX : ∀ u, H D = some u → isTx u = false) :
    EnvOk A K W (upd H D o) σ e ∧ Stp q W0 H0 s0 σ W (upd H D o) e.s ∧ Free W (upd H D o) e.s σ D := by
  refine ⟨⟨fun a u h => ?_, ?_, ?_, E.len, fun i r h => ?_, E.dj, E.nd⟩, ⟨S.wle, fun a u h n nd => ?_, fun a h => ?_, S.new, S.own, S.drn⟩, ⟨F.g, F.n, F.d⟩⟩
  · rw [upd_ne (fun z => by rw [z, F.g] at h; cases h)]
    exact E.le a u h
  · have z := E.dr
    unfold DrOk at z ⊢
    cases e1 : e.d with
    | none =>
      rw [e1] at z
      cases e2 : W.dr with
      | none => trivial
      | some d => rw [e2] at z; exact z
    | some dd =>
      rw [e1] at z
      cases e2 : W.dr with
      | none => rw [e2] at z; exact z
      | some d =>
        rw [e2] at z
        obtain ⟨x, y⟩ := d
        obtain ⟨z1, z2, z3, z4, z5⟩ := z
        have w := F.d _ (.inl e2)
        exact ⟨z1, z2, z3, by rw [upd_ne (Ne.symm w.1)]; exact z4, by rw [upd_ne (Ne.symm w.2)]; exact z5⟩
  · obtain ⟨z1, z2⟩ := E.sc
    refine ⟨⟨z1.1, tabs_upd z1.2 hX⟩, z2.imp (fun ⟨ob, ho⟩ => ⟨ob, ?_⟩) id⟩
    rw [upd_ne (fun z => by rw [z] at ho; exact hD _ _ ho)]
    exact ho
  · obtain ⟨v, h1, h2⟩ := E.sl i r h
    refine ⟨v, h1, ?_⟩
    obtain ⟨o', t⟩ := r
    cases o' with
    | false => exact h2
    | true =>
      obtain ⟨p, e1, g2, ob, hob, ow⟩ := (show ∃ p, v = .ref p ∧ Own A W H t p from h2)
      refine (show ∃ p, v = .ref p ∧ Own A W (upd H D o) t p from ⟨p, e1, g2, ob, ?_, ow⟩)
      rw [upd_ne (fun z => F.n i ⟨⟨t, h⟩, by rw [h1, e1, z]⟩)]
      exact hob
  · rw [upd_ne (fun z => by rw [z, h0] at h; cases h)]
    exact S.keep a u h n nd
  · by_cases c : a = D
    · subst c; exact h0
    · rw [upd_ne c] at h
      exact S.dom a h
end
end PB
end
section
set_option Elab.async false
set_option linter.all false
set_option maxRecDepth 100000
/-! PB27: list comprehensions. -/
namespace PB
open PySem PySem.Spec PyProof.Rows L2
section
variable {A : Cad} {K : PySem.W.Frag} {XE : XK} {C : Orc} {X : Cx} {pos p : Pos} {a b c d : Expr} {ia ib ic id : Ex}
theorem noExc_some {α : Type} {m : M α} {e e' : Ev} {out : Out α} (h : noExc m e = some (out, e')) : ∃ a, out = .ok a ∧ m e = some (.ok a, e') := by
  unfold noExc at h
  split at h
  · rename_i a e2 h2
    cases h
    exact ⟨a, rfl, h2⟩
  · cases h
theorem bnd_okk {α β : Type} {m : M α} {k : α → M β} {e e' : Ev} {b : β} (h : bnd m k e = some (.ok b, e')) : ∃ a e1, m e = some (.ok a, e1) ∧ k a e1 = some (.ok b, e') := by
  rcases bnd_some h with ⟨a, e1, h1, h2⟩ | ⟨_, _, _, h2⟩
  · exact ⟨a, e1, h1, h2⟩
  · cases h2
theorem bindM_ok {g : Tg} {t : T} {e e1 : Ev} (h : bindM g t e = some (.ok (), e1)) : bindT g t e.s = some e1.s ∧ e1.d = e.d := by
  unfold bindM at h
  simp only [Option.map_eq_some_iff, Prod.mk.injEq, true_and] at h
  obtain ⟨s, h1, h2⟩ := h
  subst h2
  exact ⟨h1, rfl⟩
/-- one turn of a list's comprehension -/
def lcK (C : Orc) (elt : Ex) (own : List Nat) (g : Tg) (ifs : List Ex) (t : T) (acc : List T) : M (List T) := bnd (wiped own) fun _ => bnd (bindM g t) fun _ => bnd (tsts C ifs) fun k => if k then bnd (ev C elt) fun r => bnd (chk (decide (acc.length < sizeLine))) fun _ => ret (acc ++ [r.2]) else ret acc
def lcM (C : Orc) (elt : Ex) (own : List Nat) (g : Tg) (ifs : List Ex) (xs : List T) : M R := noExc (bnd saved fun s => bnd (walkL (lcK C elt own g ifs) xs []) fun acc => bnd (backM s own) fun _ => ret (true, .lst acc))
theorem ev_comp (C : Orc) (elt : Ex) (own : List Nat) (g : Tg) (it : It) (ifs : List Ex) : ev C (.comp elt own g it ifs) = itD it (itL C it) (lcM C elt own g ifs) := by
  funext e
  simp only [ev]
  rfl
abbrev noX : XK := fun _ _ _ => False
theorem lc_core' {L : Lck} {J : L2.It} {q : Bool} {elt : Ex} {own : List Nat} {g : Tg} {ifs : List Ex} {xs : List T} {W0 W1 : Wd} {H0 H1 : Hp} {σ : L2.St} {e1 e' : Ev} {s0 : List (Option R)} {out : Out R} {Q : VK} (ok : ItOk A K L J W1 xs) (lw : LkW L W1) (lh : LkH L H1) (E1 : EnvOk A K W1 H1 σ e1)
    (S1 : Stp q W0 H0 s0 σ W1 H1 e1.s) (hm : lcM C elt own g ifs xs e1 = some (out, e')) (hp : Post A K XE q (rE A) W0 H0 s0 σ out e' Q) (hgl : ∀ j ∈ g.slots, j ∈ own) (hqe : q = true → elt.quiet = true) (hqi : q = true → Ex.quiets ifs = true) {D : Addr} (hD : H1 D = none) :
    ∃ W : Nat → Nat → Hp → Prop, (∃ m, W 0 m (upd H1 D (.lst []))) ∧ ∀ i m H, W i m H → (J.stop i H ∧ Q (.ref D) H) ∨ (J.go i H ∧ ∃ Nx : Hp → Prop, (∀ H', Nx H' → ∃ m', m' < m ∧ W (i + 1) m' H') ∧ ∀ x H', J.yld i H x H' → gT A K g x (L2.wipe σ own) H' fun σ2 H2 => L2.wipe σ2 own = L2.wipe σ own ∧
      tT A K noX (Ex.quiets ifs) (tsts C ifs) σ2 H2 fun b H3 => if b = true then tE A K noX elt.quiet (ev C elt) σ2 H3 fun y H4 => ∃ acc, H4 D = some (.lst acc) ∧ acc.length < sizeLine ∧ Nx (upd H4 D (.lst (acc ++ [y]))) else Nx H3) := by
  unfold lcM at hm
  obtain ⟨r, ho, hm0⟩ := noExc_some hm
  clear hm
  subst ho
  obtain ⟨s, ea, h1, hm⟩ := bnd_okk hm0
  clear hm0
  simp only [saved, Option.some.injEq, Prod.mk.injEq, Out.ok.injEq] at h1
  obtain ⟨h1, h2⟩ := h1
  subst h1 h2
  obtain ⟨accF, eF, hw, hm⟩ := bnd_okk hm
  obtain ⟨_, eB, hb, hm⟩ := bnd_okk hm
  simp only [backM, Option.some.injEq, Prod.mk.injEq, true_and] at hb
  simp only [ret, Option.some.injEq, Prod.mk.injEq, Out.ok.injEq] at hm
  obtain ⟨hm1, hm2⟩ := hm
  subst hm1 hm2 hb
  have Ew := E1.wipe own
  have ht0 : EnvOk A K W1 (upd H1 D (.lst [])) (L2.wipe σ own) ⟨wipeT e1.s own, e1.d⟩ := Ew.ext (upd_ext hD)
  refine ⟨fun i m H => m + i = xs.length ∧ ∃ W2 e2 acc vs, EnvOk A K W2 H (L2.wipe σ own) ⟨wipeT e2.s own, e2.d⟩ ∧ Stp q W1 H1 (wipeT e1.s own) (L2.wipe σ own) W2 H (wipeT e2.s own) ∧ Free W2 H (wipeT e2.s own) (L2.wipe σ own) D ∧ H D = some (.lst vs) ∧ FzL A W2 acc vs ∧ LkH L H ∧
    walkL (lcK C elt own g ifs) (xs.drop i) acc e2 = some (.ok accF, eF), ⟨xs.length, by simp, W1, e1, [], [], ht0, (Stp.refl q W1 H1 _ _).ext (upd_ext hD), ⟨Ew.noG hD, fun i w => Ew.noOw hD i w, Ew.noDr hD⟩, upd_same, (by simp only [FzL]), fun d u z => by
      obtain ⟨o, g⟩ := lw d u z
      exact upd_ext hD _ _ (lh d u z), hw⟩, ?_⟩
  rintro i m H ⟨hmi, W2, e2, acc, vs, E2, S2, F2, hD2, f2, lk, h⟩
  obtain ⟨st, go⟩ := ok i W2 H _ _ E2 S2.wle lk
  by_cases hi : i < xs.length
  · have hd : xs.drop i = xs[i] :: xs.drop (i + 1) := List.drop_eq_getElem_cons hi
    rw [hd] at h
    obtain ⟨g1, g2⟩ := go xs[i] (List.getElem?_eq_getElem hi)
    simp only [walkL] at h
    obtain ⟨acc', e3, hk, hrest⟩ := bnd_okk h
    unfold lcK at hk
    obtain ⟨_, e2w, hz, hk⟩ := bnd_okk hk
    simp only [wiped, Option.some.injEq, Prod.mk.injEq, true_and] at hz
    subst hz
    obtain ⟨_, eb, hz, hk⟩ := bnd_okk hk
    obtain ⟨hb1, hb2⟩ := bindM_ok hz
    obtain ⟨kb, e4, ht, hk⟩ := bnd_okk hk
    refine .inr ⟨g1, fun H' => (m - 1) + (i + 1) = xs.length ∧ ∃ W2 e2 acc vs, EnvOk A K W2 H' (L2.wipe σ own) ⟨wipeT e2.s own, e2.d⟩ ∧ Stp q W1 H1 (wipeT e1.s own) (L2.wipe σ own) W2 H' (wipeT e2.s own) ∧ Free W2 H' (wipeT e2.s own) (L2.wipe σ own) D ∧ H' D = some (.lst vs) ∧ FzL A W2 acc vs ∧ LkH L H' ∧
      walkL (lcK C elt own g ifs) (xs.drop (i + 1)) acc e2 = some (.ok accF, eF), fun H' z => ⟨m - 1, by omega, z⟩, fun x H' y => ?_⟩
    obtain ⟨W3, E3, S3, f3⟩ := g2 x H' y
    have lk3 : LkH L H' := LkH.keep lk (lw.mono S2.wle) E2 S3.q
    obtain ⟨F3, hD3⟩ := F2.keep E3 S3 hD2 (fun vs z => by cases z)
    refine ⟨W3, _, xs[i], eb.s, E3, f3, hb1, fun σ3 E4 S4 O4 => ⟨wipe_same O4 hgl, ?_⟩⟩
    have hbo := bindT_out hb1
    have E4 : EnvOk A K W3 H' σ3 eb := by
      obtain ⟨es, ed⟩ := eb
      cases hb2
      exact E4
    refine ⟨W3, eb, .ok kb, e4, E4, ht, fun W5 H5 E5 S5 => ?_⟩
    intro bb rb
    obtain rfl : bb = kb := rb
    -- D through a step of the block
    have F4n : ∀ i, ¬ Ow eb.s σ3 i D := fun i w => by
      obtain ⟨⟨t, w1⟩, w2⟩ := w
      rcases hbo.2 i with z | ⟨_, u, z⟩
      · rw [z] at w1
        by_cases c : i ∈ own
        · exact wipeT_in c w1
        · rw [O4.2 i fun z => c (hgl i z)] at w2
          exact F3.n i ⟨⟨t, w1⟩, w2⟩
      · rw [z] at w1
        cases w1
    have F4 : Free W3 H' eb.s σ3 D := ⟨F3.g, F4n, F3.d⟩
    have S3' : Stp q W1 H1 (wipeT e1.s own) (L2.wipe σ own) W3 H' (wipeT e2.s own) := S2.trans (S3.weak fun _ => rfl)
    have fin : ∀ {W6 : Wd} {H6 : Hp} {e6 : Ev}, EnvOk A K W6 H6 σ3 e6 → Stp q W3 H' eb.s σ3 W6 H6 e6.s → Free W6 H6 e6.s σ3 D →
        EnvOk A K W6 H6 (L2.wipe σ own) ⟨wipeT e6.s own, e6.d⟩ ∧ Stp q W1 H1 (wipeT e1.s own) (L2.wipe σ own) W6 H6 (wipeT e6.s own) ∧ Free W6 H6 (wipeT e6.s own) (L2.wipe σ own) D ∧ LkH L H6 := fun {W6 H6 e6} E6 S6 F6 => by
      have hw := wipe_same O4 hgl
      have Ea := E6.wipe own
      rw [hw] at Ea
      refine ⟨Ea, S3'.trans (blk_turn O4 hgl hbo S6), ⟨F6.g, fun i w => ?_, F6.d⟩, LkH.keep lk3 ((lw.mono S2.wle).mono S3.wle) E4 S6.q⟩
      rw [← hw] at w
      exact F6.n i (ow_wipe w).2
    cases bb with
    | false =>
      simp only [Bool.false_eq_true, if_false] at hk ⊢
      simp only [ret, Option.some.injEq, Prod.mk.injEq, Out.ok.injEq] at hk
      obtain ⟨hk1, hk2⟩ := hk
      subst hk1 hk2
      obtain ⟨F5, hD5⟩ := F4.keep E5 S5 hD3 (fun vs z => by cases z)
      have S5' : Stp q W3 H' eb.s σ3 W5 H5 e4.s := S5.weak hqi
      have f5 := (f2.mono A S3.wle).mono A S5.wle
      obtain ⟨z1, z2, z3, z4⟩ := fin E5 S5' F5
      exact ⟨by omega, W5, e4, acc, vs, z1, z2, z3, hD5, f5, z4, hrest⟩
    | true =>
      simp only [if_true] at hk ⊢
      obtain ⟨r5, e5, he, hk⟩ := bnd_okk hk
      refine ⟨W5, e4, .ok r5, e5, E5, he, fun W6 H6 E6 S6 v rv => ?_⟩
      obtain ⟨hc, hk⟩ := bnd_chk hk
      simp only [ret, Option.some.injEq, Prod.mk.injEq, Out.ok.injEq] at hk
      obtain ⟨hk1, hk2⟩ := hk
      subst hk1 hk2
      have S56 : Stp q W3 H' eb.s σ3 W6 H6 e5.s := (S5.weak hqi).trans (S6.weak hqe)
      obtain ⟨F6, hD6⟩ := F4.keep E6 S56 hD3 (fun vs z => by cases z)
      obtain ⟨W7, E7, S7, f7, l7⟩ := res_fz E6 S56 (fun i a w => E4.owt i a w) (fun p z => S5.dom p z) rv
      have F7 : Free W7 H6 e5.s σ3 D := (F4.keep E7 S7 hD3 (fun vs z => by cases z)).1
      have f8 : FzL A W7 (acc ++ [r5.2]) (vs ++ [v]) := ((((f2.mono A S3.wle).mono A S56.wle).mono A l7)).app (.one f7)
      have hl : vs.length < sizeLine := by rw [← f2.len]; simpa using hc
      -- the list grows
      refine ⟨vs, hD6, hl, by omega, W7, e5, acc ++ [r5.2], vs ++ [v], ?_⟩
      have hw := wipe_same O4 hgl
      obtain ⟨z1, z2, z3, z4⟩ := fin E7 S7 F7
      obtain ⟨y1, y2, y3⟩ := free_upd (o := .lst (vs ++ [v])) z3 z1 z2 hD (fun ob xs z => by rw [hD6] at z; cases z) (fun u z => by rw [hD6] at z; cases z; rfl)
      exact ⟨y1, y2, y3, upd_same, f8, fun d u z => by
        obtain ⟨o, g⟩ := (lw.mono S2.wle) d u z
        have g7 := S7.wle.g _ _ (S3.wle.g _ _ g)
        rw [upd_ne (fun w => by rw [w, F7.g] at g7; cases g7)]
        exact z4 d u z, hrest⟩
  · have hd : xs.drop i = [] := List.drop_eq_nil_of_le (by omega)
    rw [hd] at h
    simp only [walkL, ret, Option.some.injEq, Prod.mk.injEq, Out.ok.injEq] at h
    obtain ⟨h1, h2⟩ := h
    subst h1 h2
    obtain ⟨E9, S9⟩ := blk_end E1 E2 S2
    refine .inl ⟨st (by omega), hp W2 H E9 (S1.trans S9) _ ?_⟩
    exact ⟨D, rfl, ⟨F2.g, _, hD2, vs, rfl, f2⟩, S1.dom D hD, F2.d⟩
end
end PB
end
section
set_option Elab.async false
set_option linter.all false
set_option maxRecDepth 100000
/-! PB28: list comprehensions, as values and stored at once. -/
namespace PB
open PySem PySem.Spec PyProof.Rows L2
section
variable {A : Cad} {K : PySem.W.Frag} {XE : XK} {C : Orc} {X : Cx} {pos p : Pos} {a b c d : Expr} {ia ib ic id : Ex}
theorem unlock_stp {qq : Bool} {W W' : Wd} {H H' : Hp} {s s' : List (Option R)} {σ : L2.St} {q : Addr} {u : HO} {od : Obj} (S : Stp qq W (upd H q (.frz od u)) s σ W' H' s') (hq : H q = some u) : Stp qq W H s σ W' (upd H' q u) s' := by
  have nn : ∀ a, upd H q (.frz od u) a = none → H a = none := fun a z => by
    by_cases c : a = q
    · subst c; rw [upd_same] at z; cases z
    · rw [upd_ne c] at z; exact z
  refine ⟨S.wle, fun a o ha n nd => ?_, fun a ha => ?_, fun a o ha => ?_, S.own, fun d hd => ?_⟩
  · by_cases c : a = q
    · subst c; rw [hq] at ha; cases ha; exact upd_same
    · rw [upd_ne c]
      exact S.keep a o (by rw [upd_ne c]; exact ha) n nd
  · by_cases c : a = q
    · subst c; rw [upd_same] at ha; cases ha
    · rw [upd_ne c] at ha
      exact nn a (S.dom a ha)
  · rcases S.new a o ha with z | z | z | z
    · exact .inl z
    · exact .inr (.inl z)
    · exact .inr (.inr (.inl (nn a z)))
    · exact .inr (.inr (.inr z))
  · rcases S.drn d hd with z | ⟨z1, z2⟩
    · exact .inl z
    · exact .inr ⟨nn _ z1, nn _ z2⟩
theorem unlock_res {W W' : Wd} {H H' : Hp} {σ : L2.St} {e' : Ev} {q : Addr} {u : HO} {od : Obj} {r : R} {v : V} (g : W'.G q = some u) (h : Res A (upd H q (.frz od u)) W' H' r v) : Res A H W' (upd H' q u) r v := by
  obtain ⟨o, t⟩ := r
  cases o with
  | false => exact h
  | true =>
    obtain ⟨p, e1, ⟨g2, ob, hob, ow⟩, hn, nd⟩ := (show ∃ p, v = .ref p ∧ Own A W' H' t p ∧ upd H q (.frz od u) p = none ∧ NoDr W' p from h)
    have ne : p ≠ q := fun z => by rw [z, g] at g2; cases g2
    exact (show ∃ p, v = .ref p ∧ Own A W' (upd H' q u) t p ∧ H p = none ∧ NoDr W' p from ⟨p, e1, ⟨g2, ob, by rw [upd_ne ne]; exact hob, ow⟩, by rw [upd_ne ne] at hn; exact hn, nd⟩)
/-- the reading of a list's comprehension -/
abbrev rdLc (A : Cad) (K : PySem.W.Frag) (C : Orc) (wi : TI) (elt : Ex) (own : List Nat) (g : Tg) (ifs : List Ex) : TE := tLc wi (gT A K g) (tT A K noX (Ex.quiets ifs) (tsts C ifs)) (tE A K noX elt.quiet (ev C elt)) own
theorem comp_q {elt : Ex} {own : List Nat} {g : Tg} {it : It} {ifs : List Ex} (z : (Ex.comp elt own g it ifs).quiet = true) : elt.quiet = true ∧ it.quiet = true ∧ Ex.quiets ifs = true := by
  simp only [Ex.quiet, Bool.and_eq_true] at z
  exact ⟨z.1.1, z.1.2, z.2⟩
theorem lc_plain {elt : Ex} {own : List Nat} {g : Tg} {it : It} {ifs : List Ex} {W : Wd} {H : Hp} {σ : L2.St} {e e' : Ev} {out : Out R} {Q : VK} (E : EnvOk A K W H σ e) (hm : itD it (itL C it) (lcM C elt own g ifs) e = some (out, e')) (hd : dictAt it e.s = none) (hp : Post A K XE (Ex.comp elt own g it ifs).quiet (rE A) W H e.s σ out e' Q)
    (hgl : ∀ j ∈ g.slots, j ∈ own) : rdLc A K C (tM A K XE it.quiet (rI A K) (itL C it)) elt own g ifs σ H Q := by
  unfold itD at hm
  rw [hd] at hm
  refine step (Rl := rI A K) E (.refl _ W H e.s σ) hm hp (fun z => (comp_q z).2.1) fun xs e1 W1 H1 J hm E1 S1 s1 ok => ?_
  intro D hD
  exact lc_core' (L := none) ok (fun d u z => by cases z) (fun d u z => by cases z) E1 S1 hm hp hgl (fun z => (comp_q z).1) (fun z => (comp_q z).2.2) hD
theorem lc_dict {elt : Ex} {own : List Nat} {g : Tg} {it : It} {ifs : List Ex} {W : Wd} {H : Hp} {σ : L2.St} {e e' : Ev} {out : Out R} {Q : VK} {i : Nat} {xs : List T} (E : EnvOk A K W H σ e) (hm : itD it (itL C it) (lcM C elt own g ifs) e = some (out, e')) (hd : dictAt it e.s = some (i, xs)) (hp : Post A K XE (Ex.comp elt own g it ifs).quiet (rE A) W H e.s σ out e' Q)
    (hgl : ∀ j ∈ g.slots, j ∈ own) : it = .seq (.var i) ∧ ((∃ q u, H q = some u ∧ Mut (some u) ∧ ∀ od, rdLc A K C (iKeys (tVar i)) elt own g ifs σ (upd H q (.frz od u)) fun v H' => H' q = some (.frz od u) ∧ Q v (upd H' q u)) ∨ rdLc A K C (iKeys (tVar i)) elt own g ifs σ H Q) := by
  unfold itD at hm
  rw [hd] at hm
  obtain ⟨h1, o, x, h2, h3, h4⟩ := dictAt_some hd
  refine ⟨h1, ?_⟩
  obtain ⟨v, hv, _⟩ := E.sl i _ h2
  obtain ⟨W1, E1, S1, f1⟩ := frz1_ok (q := (Ex.comp elt own g it ifs).quiet) E (.refl _ W H e.s σ) h2 hv
  obtain ⟨q, u, e1, g1, du, mu, hq, wk⟩ := dict_walk E1 f1 h3 h4
  subst e1
  have hm : lcM C elt own g ifs xs { e with s := frz1 i e.s } = some (out, e') := hm
  rcases hq with hq | ⟨od, hq⟩
  · refine .inl ⟨q, u, hq, mu, fun od => ?_⟩
    obtain ⟨J, ok, kk⟩ := wk od
    have E2 := lock_ok (od := od) E1 g1 du hq
    refine kk i σ _ _ hv upd_same fun D hD => ?_
    refine lc_core' ok (fun d u' z => by cases z; exact ⟨u, g1⟩) (fun d u' z => by cases z; exact upd_same) E2 (.refl (Ex.comp elt own g it ifs).quiet W1 _ _ σ) hm ?_ hgl (fun z => (comp_q z).1) (fun z => (comp_q z).2.2) hD (XE := XE) (Q := fun v H' => H' q = some (.frz od u) ∧ Q v (upd H' q u))
    intro W' H' E' S'
    have hk : H' q = some (.frz od u) := S'.keep q _ upd_same (.inr fun j w => frozen_not_own E2 g1 w) (G_nodr E2 g1)
    have z := hp W' (upd H' q u) (unlock_ok E' (S'.wle.g _ _ g1) hk du) (S1.trans (unlock_stp S' hq))
    obtain ⟨r, ho, _⟩ := noExc_some (show noExc _ _ = some (out, e') from hm)
    subst ho
    exact fun v rv => ⟨hk, z v (unlock_res (e' := e') (σ := σ) (W := W) (S'.wle.g _ _ g1) rv)⟩
  · refine .inr ?_
    obtain ⟨J, ok, kk⟩ := wk od
    refine kk i σ _ _ hv hq fun D hD => ?_
    exact lc_core' ok (fun d u' z => by cases z; exact ⟨u, g1⟩) (fun d u' z => by cases z; exact hq) E1 S1 hm hp hgl (fun z => (comp_q z).1) (fun z => (comp_q z).2.2) hD
/-- the parts of a comprehension, in its block -/
structure LcP (A : Cad) (K : PySem.W.Frag) (C : Orc) (X : Cx) (scope : Scope) (tg : Expr) (ifs : List Expr) (g : Tg) (jfs : List Ex) : Prop where
  hg : ∀ (s : Shared) (H : Hp) (Cc : Addr) (cl : List (Str × Addr)) (fp : List Addr), Pg A K (X.blk s H scope (compEnvC scope cl Cc X.env) fp) tg g
  ht : ∀ (s : Shared) (H : Hp) (Cc : Addr) (cl : List (Str × Addr)) (fp : List Addr), PTs (X.blk s H scope (compEnvC scope cl Cc X.env) fp) ifs (tT A K noX (Ex.quiets jfs) (tsts C jfs))
abbrev EltP (A : Cad) (K : PySem.W.Frag) (C : Orc) (X : Cx) (scope : Scope) (elt : Expr) (ie : Ex) : Prop :=
  ∀ (s : Shared) (H : Hp) (Cc : Addr) (cl : List (Str × Addr)) (fp : List Addr), Pe A K noX C (X.blk s H scope (compEnvC scope cl Cc X.env) fp) elt ie
theorem b_comp {elt tg iter : Expr} {ifs : List Expr} {scope : Scope} {own : List (Str × Nat)} {ie : Ex} {g : Tg} {it : It} {jfs : List Ex} (hc : X.calm = true) (hN : X.N.Nodup) (hi : ItX A K XE C X tg iter it) (ok : BlkOk X.N X.env.scope scope own) (hl : LcP A K C X scope tg ifs g jfs) (he : EltP A K C X scope elt ie)
    (hs : notSet iter = true) (hgl : ∀ j ∈ g.slots, j ∈ own.map (·.2)) : Pe A K XE C X (.ListComp elt [⟨tg, iter, ifs, 0⟩] scope pos) (.comp ie (own.map (·.2)) g it jfs) := by
  refine ⟨fun pins s σ H Q I hh => ?_⟩
  obtain ⟨W, e, out, e', E, hm, hp⟩ := hh
  rw [ev_comp] at hm
  cases hd : dictAt it e.s with
  | none => exact (pe_lc hc hN hi.pi ok hl.hg hl.ht he (fold_ok hs _)).run pins s σ H Q I (lc_plain E hm hd hp hgl)
  | some z =>
    obtain ⟨i, xs⟩ := z
    obtain ⟨h1, h2⟩ := lc_dict E hm hd hp hgl
    have hp2 := pe_lc (pos := pos) hc hN (pi_keys (hi.var i h1)) ok hl.hg hl.ht he (fold_ok hs _)
    rcases h2 with ⟨q, u, hq, mu, h2⟩ | h2
    · exact (pe_lock hp2).run pins s σ H Q I ⟨q, u, hq, mu, h2⟩
    · exact hp2.run pins s σ H Q I h2
/-- name = [..], at once -/
theorem s_comp {i0 : Nat} {y : Str} {py spos : Pos} {elt tg iter : Expr} {ifs : List Expr} {scope : Scope} {own : List (Str × Nat)} {ie : Ex} {g : Tg} {it : It} {jfs : List Ex} (hc : X.calm = true) (hN : X.N.Nodup) (hy : X.N[i0]? = some y) (hyl : X.env.scope.names.lookup y = some .local)
    (hsw : swapsWith (.ListComp elt [⟨tg, iter, ifs, 0⟩] scope pos) (some (.Name y py)) spos.line X.env = pure true) (hi : ItX A K XE C X tg iter it) (ok : BlkOk X.N X.env.scope scope own) (hl : LcP A K C X scope tg ifs g jfs) (he : EltP A K C X scope elt ie)
    (hs : notSet iter = true) (hgl : ∀ j ∈ g.slots, j ∈ own.map (·.2)) : PS X (.Assign [.Name y py] (.ListComp elt [⟨tg, iter, ifs, 0⟩] scope pos) spos) (tAsg (tE A K XE (Ex.comp ie (own.map (·.2)) g it jfs).quiet (ev C (.comp ie (own.map (·.2)) g it jfs))) (gName i0)) := by
  refine ⟨fun pins s σ H D I hh => ?_⟩
  obtain ⟨W, e, out, e', E, hm, hp⟩ := hh
  rw [ev_comp] at hm
  cases hd : dictAt it e.s with
  | none => exact (ps_setLc hc hN hy hyl hsw hi.pi ok hl.hg hl.ht he (fold_ok hs _)).run pins s σ H D I (lc_plain E hm hd hp hgl)
  | some z =>
    obtain ⟨i, xs⟩ := z
    obtain ⟨h1, h2⟩ := lc_dict E hm hd hp hgl
    have hp2 := ps_setLc (spos := spos) hc hN hy hyl hsw (pi_keys (hi.var i h1)) ok hl.hg hl.ht he (fold_ok hs _)
    rcases h2 with ⟨q, u, hq, mu, h2⟩ | h2
    · exact (ps_lock hp2).run pins s σ H D I ⟨q, u, hq, mu, fun od => h2 od⟩
    · exact hp2.run pins s σ H D I h2
end
end PB
end
section
set_option Elab.async false
set_option linter.all false
set_option maxRecDepth 100000
/-! PB29: defs, classes' and exceptions' __init__. -/
namespace PB
open PySem PySem.Spec PyProof.Rows L2
section
variable {A : Cad} {P : Program} {w : World} {K : PySem.W.Frag} {mg : Str → Option Value} {base : Heap}
theorem args_len (ts : List T) (n : Nat) (h : ts.length ≤ n) : (args ts n).length = n := by
  simp only [args, List.length_append, List.length_map, List.length_replicate]
  omega
theorem args_get {ts : List T} {n i : Nat} {r : R} (h : (args ts n)[i]? = some (some r)) : ∃ t, ts[i]? = some t ∧ r = (false, t) := by
  unfold args at h
  rcases Nat.lt_or_ge i ts.length with z | z
  · rw [List.getElem?_append_left (by simpa using z), List.getElem?_map, Option.map_eq_some_iff] at h
    obtain ⟨t, h1, h2⟩ := h
    cases h2
    exact ⟨t, h1, rfl⟩
  · rw [List.getElem?_append_right (by simpa using z), List.getElem?_replicate] at h
    split at h <;> cases h
theorem start_get {N : List Str} {vs : List V} {i : Nat} {v : V} (h : vs[i]? = some v) : (L2.start N vs)[i]? = some (some v) := by
  unfold L2.start
  rw [List.getElem?_append_left (by have := get_lt h; simpa using this), List.getElem?_map, h]
  rfl
theorem start_len {N : List Str} {vs : List V} (h : vs.length ≤ N.length) : (L2.start N vs).length = N.length := by
  simp only [L2.start, List.length_append, List.length_map, List.length_replicate]
  omega
theorem stq_bare {W W' : Wd} {H H' : Hp} {s s' : List (Option R)} {σ σ' : L2.St} (S : Stq W H s σ W' H' s' σ') (n : ∀ i p, ¬ Ow s σ i p) : Stp false W H [] [] W' H' [] :=
  ⟨S.wle, fun a o h _ nd => S.keep a o h (fun i => n i a) nd, S.dom, fun a o h => by
    rcases S.new a o h with z | ⟨i, z⟩ | z | z
    · exact .inl z
    · exact (n i a z).elim
    · exact .inr (.inr (.inl z))
    · exact .inr (.inr (.inr z)), fun i p w => (noOwn w).elim, S.drn⟩
theorem args_ow {ts : List T} {n i : Nat} {σ : L2.St} {q : Addr} : ¬ Ow (args ts n) σ i q := fun ⟨⟨t, h⟩, _⟩ => by
  obtain ⟨_, _, h2⟩ := args_get h
  cases h2
/-- the body's context at a def's entry -/
abbrev bdX (P : Program) (w : World) (K : PySem.W.Frag) (mg : Str → Option Value) (base : Heap) (N : List Str) (qual : Str) (scope : Scope) (f : Addr) (cdv : Value) (A : Around) (outer : List Env) (s : Shared) (H : Hp) (E : XK) : Cx := cxOf (L2.CX P w) P w K mg base N qual scope f cdv A outer s H E
theorem takes_bd {N : List Str} {qual : Str} {scope : Scope} {f : Addr} {cdv : Value} {Ar : Around} {outer : List Env} {s : Shared} {H : Hp} {E : XK} : Takes (bdX P w K mg base N qual scope f cdv Ar outer s H E) (fun c d _ H => E c d H) := takes_of rfl rfl rfl (E₁ := _) rfl
theorem owns_bd {N : List Str} {qual : Str} {scope : Scope} {f : Addr} {cdv : Value} {Ar : Around} {outer : List Env} {s : Shared} {H : Hp} {E : XK} : PassesOwn (model P w) (bdX P w K mg base N qual scope f cdv Ar outer s H E).A (bdX P w K mg base N qual scope f cdv Ar outer s H E).env (bdX P w K mg base N qual scope f cdv Ar outer s H E).xe := passes_of (X := bdX P w K mg base N qual scope f cdv Ar outer s H E) (E₁ := _) rfl
/-- a def's rule, its code object told -/
theorem fund_ok {CX : CXT} {x qual : Str} {pr : Arguments} {body : List Stmt} {scope : Scope} {fa : Addr} {fd : FuncData} {N ps : List Str} {k : Nat} {sp : Sp} (F : FunD K x qual pr body scope [] [] fa fd) (S : FnScope N ps scope) (len : ∀ vs H Q E, sp vs H Q E → vs.length = ps.length)
    (hb : ∀ (cdv : Value), fd.code = cdv → ∀ (Ar : Around) (outer : List Env) (s : Shared) (H : Hp) (vs : List V) (Q : VK) (E : XK), Room k (Ar.deeper (envOfC qual scope s.heap.objs.size fa cdv)) → sp vs H Q E →
      ∃ t, PSs (cxOf CX P w K mg base N qual scope fa cdv Ar outer s H E) body t ∧ t { nx := fun _ H' => Q .non H', rt := Q } (L2.start N vs) H) : FnOk P w K mg base CX (k + 1) fa fd ps sp := by
  obtain ⟨oc, od, dV, kV, doc, pm, an, cdv, ct, osl, e, lk, hcd, _, _⟩ := F.ex
  subst e
  exact fn_of lk hcd S len fun Ar outer s H vs Q E hr hsp => hb cdv rfl Ar outer s H vs Q E hr hsp
theorem fn_ok {Γ : List (Fd × Bool)} {b : Bool} {f n k : Nat} {x qual : Str} {pr : Arguments} {body : List Stmt} {scope : Scope} {fa : Addr} {fd : FuncData} {N ps : List Str} {ir : List St} (F : FunD K x qual pr body scope [] [] fa fd) (S : FnScope N ps scope) (hle : ps.length ≤ N.length) (hΓ : Γ[f]? = some (.fn ps.length N.length ir, b))
    (hb : ∀ (cdv : Value), fd.code = cdv → ∀ (Ar : Around) (outer : List Env) (s : Shared) (H : Hp) (E : XK), Room k (Ar.deeper (envOfC qual scope s.heap.objs.size fa cdv)) → Pss A K E (callN Γ n) (bdX P w K mg base N qual scope fa cdv Ar outer s H E) body ir) :
    FnOk P w K mg base (L2.CX P w) (k + 1) fa fd ps (spB A K (callN Γ (n + costF (Fd.fn ps.length N.length ir, b) + 1) f) ps.length) := by
  refine fund_ok F S (fun vs H Q E h => h.1) fun cdv hcv Ar outer s H vs Q E hr hsp => ⟨_, hb cdv hcv Ar outer s H E hr, ?_⟩
  obtain ⟨hl, W, ts, d, out, d', E0, f0, hc, kk⟩ := hsp
  rw [callN_at hΓ] at hc
  simp only [runF] at hc
  split at hc
  · rename_i hts
    have E1 : EnvOk A K W H (L2.start N vs) ⟨args ts N.length, d⟩ := ⟨E0.le, E0.dr, E0.sc, by rw [args_len ts _ (by omega), start_len (by omega)], fun i r h => by
      obtain ⟨t, h1, h2⟩ := args_get h
      obtain ⟨v, h3, h4⟩ := f0.get h1
      subst h2
      exact ⟨v, start_get h3, h4⟩, fun i j p h => (args_ow h).elim, fun i p h => (args_ow h).elim⟩
    cases hq : sts (callN Γ n) ir ⟨args ts N.length, d⟩ with
    | none => rw [hq] at hc; cases hc
    | some z =>
      obtain ⟨fl, e'⟩ := z
      rw [hq] at hc
      refine ⟨W, _, fl, e', E1, hq, fun W' H' σ' E' S' => ?_⟩
      have Sb := stq_bare S' fun i p => args_ow
      cases fl with
      | next =>
        cases hc
        exact kk W' H' E'.bare Sb .non (by show Fz A W' .non .non; simp only [Fz])
      | brk => cases hc
      | cont => cases hc
      | exc C fs =>
        cases hc
        exact kk W' H' E'.bare Sb
      | ret r =>
        cases hc
        intro v rr
        refine kk W' H' E'.bare Sb v ?_
        obtain ⟨o, t⟩ := r
        cases o with
        | false => exact rr
        | true =>
          obtain ⟨p, e1, ow, hn, nd⟩ := (show ∃ p, v = .ref p ∧ Own A W' H' t p ∧ (H p = none ∨ ∃ j, Ow (args ts N.length) (L2.start N vs) j p) ∧ NoDr W' p from rr)
          refine (show ∃ p, v = .ref p ∧ Own A W' H' t p ∧ H p = none ∧ NoDr W' p from ⟨p, e1, ow, ?_, nd⟩)
          rcases hn with z | ⟨j, z⟩
          · exact z
          · exact (args_ow z).elim
  · cases hc
/-- a class's __init__: the new instance is its first slot's own -/
theorem init_ok {Γ : List (Fd × Bool)} {b : Bool} {f n k m : Nat} {x qual : Str} {Cn : Str} {pr : Arguments} {body : List Stmt} {scope : Scope} {fa : Addr} {fd : FuncData} {N ps : List Str} {ir : List St} (F : FunD K x qual pr body scope [] [] fa fd) (S : FnScope N ps scope) (hle : ps.length ≤ N.length) (hm : ps.length = m + 1) (hΓ : Γ[f]? = some (.init Cn ps.length N.length ir, b))
    (hb : ∀ (cdv : Value), fd.code = cdv → ∀ (Ar : Around) (outer : List Env) (s : Shared) (H : Hp) (E : XK), Room k (Ar.deeper (envOfC qual scope s.heap.objs.size fa cdv)) → Pss A K E (callN Γ n) (bdX P w K mg base N qual scope fa cdv Ar outer s H E) body ir) :
    FnOk P w K mg base (L2.CX P w) (k + 1) fa fd ps (spI A K (callN Γ (n + costF (Fd.init Cn ps.length N.length ir, b) + 1) f) Cn m) := by
  refine fund_ok F S (fun vs H Q E ⟨y, us, h1, h2, _⟩ => by rw [h1, List.length_cons, h2, hm]) fun cdv hcv Ar outer s H vs Q E hr hsp => ⟨_, hb cdv hcv Ar outer s H E hr, ?_⟩
  obtain ⟨y, us, hv, hl, W, ts, d, out, d', E0, f0, hc, kk⟩ := hsp
  subst hv
  rw [callN_at hΓ] at hc
  simp only [runF] at hc
  split at hc
  · rename_i hts
    obtain ⟨v0, hv0, sl0⟩ := E0.sl 0 (true, .ins Cn []) rfl
    simp at hv0
    subst hv0
    have gt : ∀ {i : Nat} {r : R}, (some (true, T.ins Cn []) :: args ts (N.length - 1))[i]? = some (some r) → (i = 0 ∧ r = (true, .ins Cn [])) ∨ ∃ j t, i = j + 1 ∧ ts[j]? = some t ∧ r = (false, t) := fun {i r} h => by
      cases i with
      | zero => simp at h; exact .inl ⟨rfl, h.symm⟩
      | succ j =>
        simp only [List.getElem?_cons_succ] at h
        obtain ⟨t, h1, h2⟩ := args_get h
        exact .inr ⟨j, t, rfl, h1, h2⟩
    have s0 : (L2.start N (.ref y :: us))[0]? = some (some (.ref y)) := start_get rfl
    have owy : ∀ {i p}, Ow (some (true, T.ins Cn []) :: args ts (N.length - 1)) (L2.start N (.ref y :: us)) i p → i = 0 ∧ p = y := fun {i p} ⟨⟨t, h⟩, h2⟩ => by
      rcases gt h with ⟨z1, z2⟩ | ⟨j, t', _, _, z⟩
      · subst z1
        rw [s0] at h2
        simp at h2
        exact ⟨rfl, h2.symm⟩
      · cases z
    have o0 : Ow [some (true, T.ins Cn [])] [some (V.ref y)] 0 y := ⟨⟨_, rfl⟩, rfl⟩
    have E1 : EnvOk A K W H (L2.start N (.ref y :: us)) ⟨some (true, .ins Cn []) :: args ts (N.length - 1), d⟩ := ⟨E0.le, E0.dr, E0.sc, by
        rw [List.length_cons, args_len ts _ (by omega), start_len (by simp; omega)]
        omega, fun i r h => by
      rcases gt h with ⟨z1, z2⟩ | ⟨j, t, z1, z2, z3⟩
      · subst z1 z2
        exact ⟨.ref y, s0, sl0⟩
      · obtain ⟨v, h3, h4⟩ := f0.get z2
        subst z1 z3
        exact ⟨v, start_get (by simpa using h3), h4⟩, fun i j p h1 h2 => by rw [(owy h1).1, (owy h2).1], fun i p h => by
      obtain ⟨_, z⟩ := owy h
      subst z
      exact E0.nd 0 p o0⟩
    cases hq : sts (callN Γ n) ir ⟨some (true, .ins Cn []) :: args ts (N.length - 1), d⟩ with
    | none => rw [hq] at hc; cases hc
    | some z =>
      obtain ⟨fl, e'⟩ := z
      rw [hq] at hc
      refine ⟨W, _, fl, e', E1, hq, fun W' H' σ' E' S' => ?_⟩
      have ow0 : ∀ a, (∀ i, ¬ Ow [some (true, T.ins Cn [])] [some (V.ref y)] i a) → ∀ i, ¬ Ow (some (true, T.ins Cn []) :: args ts (N.length - 1)) (L2.start N (.ref y :: us)) i a := fun a n i w => by
        obtain ⟨_, z⟩ := owy w
        subst z
        exact n 0 o0
      have new' : ∀ a o, W'.G a = some o → W.G a = some o ∨ (∃ i, Ow [some (true, T.ins Cn [])] [some (V.ref y)] i a) ∨ H a = none ∨ ∃ vs, o = .tup vs := fun a o h => by
        rcases S'.new a o h with z | ⟨i, z⟩ | z | z
        · exact .inl z
        · obtain ⟨_, z⟩ := owy z
          subst z
          exact .inr (.inl ⟨0, o0⟩)
        · exact .inr (.inr (.inl z))
        · exact .inr (.inr (.inr z))
      cases fl with
      | brk => cases hc
      | cont => cases hc
      | ret r => cases hc
      | exc C fs =>
        cases hc
        exact kk W' H' E'.bare ⟨S'.wle, fun a o h n nd => S'.keep a o h (ow0 a (n.resolve_left (by simp))) nd, S'.dom, new', fun i p w => (noOwn w).elim, S'.drn⟩
      | next =>
        simp only at hc
        split at hc
        · rename_i t ht
          cases hc
          -- the first slot still holds the instance
          obtain ⟨v, hv, sl⟩ := E'.sl 0 _ ht
          obtain ⟨p, e1, ow⟩ := (show ∃ p, v = .ref p ∧ Own A W' H' t p from sl)
          subst e1
          have w' : Ow e'.s σ' 0 p := ⟨⟨t, ht⟩, hv⟩
          have hy : σ'[0]? = some (some (.ref y)) := S'.fx.trans s0
          rw [hv] at hy
          cases hy
          have E9 : EnvOk A K W' H' [some (.ref y)] ⟨[some (true, t)], e'.d⟩ := ⟨E'.le, E'.dr, E'.sc, rfl, fun i r h => by
            cases i with
            | succ i => simp at h
            | zero =>
              simp at h
              subst h
              exact ⟨.ref y, rfl, y, rfl, ow⟩, fun i j p ⟨⟨_, h1⟩, h2⟩ ⟨⟨_, h3⟩, h4⟩ => by
            cases i with
            | succ i => simp at h1
            | zero =>
              cases j with
              | succ j => simp at h3
              | zero => rfl, fun i p ⟨⟨_, h1⟩, h2⟩ => by
            cases i with
            | succ i => simp at h1
            | zero =>
              simp at h2
              subst h2
              exact E'.nd 0 y w'⟩
          refine kk W' H' rfl E9 ⟨S'.wle, fun a o h n nd => S'.keep a o h (ow0 a (n.resolve_left (by simp))) nd, S'.dom, new', fun i p ⟨⟨u, h1⟩, h2⟩ => ?_, S'.drn⟩
          cases i with
          | succ i => simp at h1
          | zero => exact ⟨⟨_, rfl⟩, h2⟩
        · cases hc
  · cases hc
end
end PB
end
section
set_option Elab.async false
set_option linter.all false
set_option maxRecDepth 100000
set_option maxHeartbeats 2000000
/-! PBL1: several named clauses; a lambda handed to a def. -/
namespace PB
open PySem PySem.Spec PyProof.Rows L2
/-- the ends behind a clause: its name goes -/
def gone (i : Nat) (D : Ends) : Ends := { nx := fun σ' H' => D.nx (σ'.set i none) H', rt := D.rt, bk := fun σ' H' => D.bk (σ'.set i none) H', ct := fun σ' H' => D.ct (σ'.set i none) H' }
/-- the wish of the clauses 'except c as n', one behind another; slot i is n's -/
def wNm (K : PySem.W.Frag) (i : Nat) (D : Ends) : List (Value × (Addr → Value → Option Addr → TS)) → WX
  | [] => fun _ _ _ _ => False
  | (c, ts) :: r => fun cls d σ H => ∃ b, PySem.W.exmOne K cls c = some b ∧ (b = true → ∀ a, H a = none → i < σ.length → ts a cls d (gone i D) (σ.set i (some (.ref a))) H) ∧ (b = false → wNm K i D r cls d σ H)
inductive HdN (X : Cx) (n : Str) : List ExceptHandler → List (Value × (Addr → Value → Option Addr → TS)) → Prop
  | nil : HdN X n [] []
  | cons {x : Str} {c : Value} {ts : Addr → Value → Option Addr → TS} {b₀ : Stmt} {suite : List Stmt} {np ep : Pos} {hds : List ExceptHandler} {l : List (Value × (Addr → Value → Option Addr → TS))} (hc : Names X x c)
      (hsu : ∀ (a : Addr) (oe : Obj) (cls : Value) (d : Option Addr) (pn : List (Addr × Obj)), Zc cls d oe → (∃ vs, oe.data = .fields vs) → PSs (X.suite a ((a, oe) :: pn)) (b₀ :: suite) (ts a cls d)) (r : HdN X n hds l) :
      HdN X n (.ExceptHandler (some (.Name x np)) (some n) (b₀ :: suite) ep :: hds) ((c, ts) :: l)
section
variable {X : Cx} {n : Str} {i : Nat} {body : List Stmt} {h₀ : ExceptHandler} {hds : List ExceptHandler} {l : List (Value × (Addr → Value → Option Addr → TS))} {pos : Pos} {tb : WX → TS}
theorem ps_try_nm (hs : X.stack = X.env :: X.outer) (hf : X.env.frame = some X.env.locals) (hN : X.N.Nodup) (hi : X.N[i]? = some n) (hln : X.env.kindOf n = some .local)
    (hb : ∀ (W : WX) (pn : List (Addr × Obj)) (xe : Value → Shared → Prop), Takes (X.tr pn xe) W → PassesOwn (model X.prog X.w) X.A X.env xe → PSs (X.tr pn xe) body (tb W)) (hh : HdN X n (h₀ :: hds) l) :
    PS X (.Try body (h₀ :: hds) [] [] pos) (fun D σ H => tb (wNm X.K i D l) D σ H) := by
  refine ⟨fun pins s σ H D I h => ?_⟩
  have ok := I.ok
  have frames : X.A.frames = some (X.env :: X.outer) := by rw [ok.frames, hs]
  refine wpAny_Try_except (wpAny_mono ((hb (wNm X.K i D l) (X.pn ++ pins) (fun e s₁ => wpAny (model X.prog X.w) X.A (noteFrame e X.env) (fun _ s₂ => wpAny (model X.prog X.w) X.A (setFlight e none) (fun _ s₃ =>
    wpAny (model X.prog X.w) X.A (handleBy e X.env (h₀ :: hds)) (SP X pins D) X.xe s₃) X.xe s₂) X.xe s₁) (fun u s' caught => ?_) PassesOwn.looking).run [] s σ H D (I.toTry _) h) (fun f s1 q => ?_) (fun _ _ z => z))
  · obtain ⟨a, B, sI, pins', σ', H', cls, d, rfl, J', nb, up, sky, na, os, ag, w⟩ := caught
    have J : Inv X pins σ' H' sI := J'.ofTry ok
    have sky : Sky B (X.env :: X.outer) a (Zc cls d) X.env.locals s'.heap := by
      rw [← hs]
      exact sky
    show wpAny (model X.prog X.w) X.A (noteFrame (.ref a) X.env) _ _ _
    refine Sky.land Zc.steady frames hf sky fun h3 fl up3 => ?_
    have J3 : Inv X pins σ' H' { s' with heap := h3 } := J.landed nb fl.1 (up.trans up3) os ag
    obtain ⟨oe, vs, he, hz, hd⟩ := fl.there
    have nfr : a ∉ frs (X.env :: X.outer) := fun hm => by
      obtain ⟨_, o', e', hnf⟩ := fl.2.2.1.mem hm
      rw [he] at e'
      cases e'
      exact hnf _ hd
    have nL : a ≠ X.env.locals := fun z => nfr (List.mem_filterMap.mpr ⟨X.env, List.mem_cons_self, by rw [hf, z]⟩)
    have nF : a ∉ X.fs := fun hm => by
      obtain ⟨e, he', q⟩ := List.mem_filterMap.mp hm
      exact nfr (List.mem_filterMap.mpr ⟨e, List.mem_cons_of_mem _ he', q⟩)
    have S3 := J3.suite he hd na nL nF
    have go : ∀ {hds' : List ExceptHandler} {l' : List (Value × (Addr → Value → Option Addr → TS))}, HdN X n hds' l' → wNm X.K i D l' cls d σ' H' →
        wpAny (model X.prog X.w) X.A (handleBy (.ref a) X.env hds') (SP X pins D) X.xe { s' with heap := h3 } := by
      intro hds' l' hk
      induction hk with
      | nil => exact fun w => w.elim
      | @cons x c ts b₀ suite np ep hds2 l2 hc hsu r ih =>
        rintro ⟨b, hb1, yes, no⟩
        refine wpAny_handleBy_cons (codeAny_handlers_test ?_) (by intro q; cases q)
        have LT : PySem.W.Looks (model X.prog X.w) h3 (typeOf (.ref a)) cls := fun A Q E s k q => wpAny_typeOf_ref (k _ _ he) (by rw [hz.1]; exact q)
        have LM := PySem.W.exm_one (M := model X.prog X.w) J3.kIn LT hb1
        have test : ∀ {Q : Value → Shared → Prop} {E : Value → Shared → Prop}, Q c { s' with heap := h3 } → wpAny (model X.prog X.w) (X.A.mark (some (.ref a))) (eval (.Name x np) X.env) Q E { s' with heap := h3 } := fun {Q E} q =>
          match hc with
          | ⟨hg, hdb, .inl hm⟩ => ld_glob (X := X.suite a ((a, oe) :: (X.pn ++ pins))) S3 hg hm q hdb
          | ⟨hg, hdb, .inr ⟨hm, hv, hn⟩⟩ => ld_blt (X := X.suite a ((a, oe) :: (X.pn ++ pins))) S3 hg hm hv q hn hdb
        refine test (LM.here ?_)
        cases b with
        | false => exact ih (no rfl)
        | true =>
          refine codeAny_handlers_suite_as (HandSPX.lands_againZ fl fun h4 fl4 up4 => ?_)
          have J4 : Inv X pins σ' H' { s' with heap := h4 } := J.landed nb fl4.1 ((up.trans up3).trans up4) os ag
          obtain ⟨oe4, vs4, he4, hz4, hd4⟩ := fl4.there
          have S4 := J4.suite he4 hd4 na nL nF
          refine store_ok (X := X.suite a ((a, oe4) :: (X.pn ++ pins))) (v := .ref a) S4 hN hi (.inl hln) rfl (fun s5 S5 => ?_) (.inr hln)
          refine wpAny_mono ((hsu a oe4 cls d (X.pn ++ pins) hz4 ⟨_, hd4⟩).run [] s5 _ H' _ S5 (yes rfl a na (by rw [J.len]; exact (List.getElem?_eq_some_iff.mp hi).1))) (fun f s6 hsp => ?_) (fun _ _ z => False.elim z)
          have end_ : ∀ {σ6 : L2.St} {H6 : Hp} {Q : Shared → Prop}, Inv (X.suite a ((a, oe4) :: (X.pn ++ pins))) [] σ6 H6 s6 → (∀ s7, Inv X pins (σ6.set i none) H6 s7 → Q s7) →
              wpAny (model X.prog X.w) X.A (do bindName X.env n .none; unbindBehindTheSuite X.env n ep) (fun _ s7 => Q s7) X.xe s6 := fun {σ6 H6 Q} S6 hq => gone_ok (S6.unsuite ok) hN hi hln hq
          cases f with
          | ret u =>
            obtain ⟨v6, σ6, H6, S6, r6, q6⟩ := hsp
            exact end_ S6 fun s7 J7 => ⟨_, _, _, J7, r6, q6⟩
          | next =>
            obtain ⟨σ6, H6, S6, q6⟩ := hsp
            exact end_ S6 fun s7 J7 => ⟨_, _, J7, q6⟩
          | brk =>
            obtain ⟨σ6, H6, S6, q6⟩ := hsp
            exact end_ S6 fun s7 J7 => ⟨_, _, J7, q6⟩
          | cont =>
            obtain ⟨σ6, H6, S6, q6⟩ := hsp
            exact end_ S6 fun s7 J7 => ⟨_, _, J7, q6⟩
    exact go hh w
  · cases f with
    | ret u =>
      obtain ⟨v, σ', H', J', r, q⟩ := q
      exact ⟨v, σ', H', J'.ofTry ok, r, q⟩
    | next =>
      obtain ⟨σ', H', J', q⟩ := q
      exact wpAny_execs_nil ⟨σ', H', J'.ofTry ok, q⟩
    | brk =>
      obtain ⟨σ', H', J', q⟩ := q
      exact ⟨σ', H', J'.ofTry ok, q⟩
    | cont =>
      obtain ⟨σ', H', J', q⟩ := q
      exact ⟨σ', H', J'.ofTry ok, q⟩
end
end PB
end
section
set_option Elab.async false
set_option linter.all false
set_option maxRecDepth 100000
set_option maxHeartbeats 2000000
/-! PBL2: a lambda is made and handed on. -/
namespace PB
open PySem PySem.Spec PyProof.Rows L2
section
variable {X : Cx} {pins : List (Addr × Obj)} {σ : L2.St} {H : Hp} {s : Shared}
/-- all but the table at P stays -/
structure ButT (P : Addr) (H H1 : Hp) : Prop where
  up : ∀ b o, b ≠ P → H b = some o → H1 b = some o
  dn : ∀ b, H1 b = none → H b = none
theorem lam_mk {T : List (Addr × Str)} {c P : Addr} {params : Arguments} {body : Expr} {scope : Scope} {pos : Pos} {E : Value → Shared → Prop} {Q : Value → Shared → Prop} (I : Inv X pins σ H s) (TB : LamX.TabB X.base X.mg c P) (hcode : X.env.code = .ref c)
    (hm : (P, X.env.qual ++ "<lambda>") ∈ T) (hu : ∀ p ∈ T, p.1 = P → p.2 = X.env.qual ++ "<lambda>") (hT : LamX.Tabs T H) (hdef : defaultsOf params X.env = ([], [])) (hfree : ∀ y ∈ scope.names, y.2 = .free → ∃ c, X.env.cells.lookup y.1 = some c)
    (h : ∀ (f c' : Addr) (pm ctv : Value) (H1 : Hp) (s' : Shared), Inv X pins σ H1 s' → ButT P H H1 → LamX.Tabs T H1 →
      s'.heap.get? f = some (PySem.W.kla_obj "<lambda>" (X.env.qual ++ "<lambda>") params body scope (cloFrom X.env.cells scope.names []) pm c' ctv) → H1 f = none → f ∉ frs X.stack → H1 c' = some (LamX.CodeO c' (X.env.qual ++ "<lambda>")) → Q (.ref f) s') :
    wpAny (model X.prog X.w) X.A (eval (.Lambda params body scope pos) X.env) Q E s := by
  obtain ⟨ps, hP, ht, ha⟩ := hT _ hm
  have bP : s.heap.BuiltinsAt X.mg P := TB.bm.keeps I.bk
  have hP' : s.heap.get? P = some { cls := .none, data := .fields ps } := I.hok P _ hP
  have nofr : ∀ f, s.heap.objs.size ≤ f → f ∉ frs X.stack := fun f hf z => by
    rcases List.mem_cons.mp (I.stkSub _ z) with e | e
    · have h1 := I.lt
      rw [← e] at h1
      exact absurd h1 (Nat.not_lt.mpr hf)
    · exact I.nofs hf e
  refine PySem.W.kla_eval hdef ?_
  cases hc : codeAmong pos ps.toList with
  | some cv =>
    obtain ⟨c', e, hco⟩ := ha pos cv hc
    subst e
    refine PySem.W.kla_makeFunctionHit (mg := X.mg) (c := c) (P := P) (ps := ps) (closure_ok hfree) I.ok.glob (I.mod.glob.keeps I.bk) hcode (TB.code.keeps I.bk) hP' ht hc bP fun ctv h' tk hx hsz => ?_
    exact h h'.objs.size c' ((X.mg "__name__").getD .none) ctv H _ (I.kept fun b o e => Heap.get?_push_of_some _ (hx b o e)) ⟨fun _ _ _ e => e, fun _ e => e⟩ hT (Heap.get?_push_size _ rfl) (I.hok.fresh hsz) (nofr _ hsz) hco
  | none =>
    refine PySem.W.kla_makeFunction (mg := X.mg) (c := c) (P := P) (ps := ps) (closure_ok hfree) I.ok.glob (I.mod.glob.keeps I.bk) hcode (TB.code.keeps I.bk) hP' ht hc TB.gP bP fun c' ctv h' tk hx hge hlt hrec htb => ?_
    obtain ⟨c2, oc, vs, t, e2, hoc, hd, hv⟩ := hrec
    cases e2
    have hsz : s.heap.objs.size ≤ h'.objs.size := Nat.le_trans hge (Nat.le_of_lt hlt)
    have nC : H c' = none := I.hok.fresh hge
    have PC : P ≠ c' := ne_of_none hP nC
    have I1 := LamX.inv_table (t' := tk) (more := #[rawInt pos.line, rawInt pos.col, .ref c']) (h' := h'.push (PySem.W.kla_obj "<lambda>" (X.env.qual ++ "<lambda>") params body scope (cloFrom X.env.cells scope.names []) ((X.mg "__name__").getD .none) c' ctv)) I hP
      (fun b o hb e => Heap.get?_push_of_some _ (hx b o hb e)) (Heap.get?_push_of_some _ htb) hge ⟨oc, vs, t, Heap.get?_push_of_some _ hoc, hd, hv⟩
    have up : ButT P H (upd (upd H P (.tbl (ps ++ #[rawInt pos.line, rawInt pos.col, .ref c']))) c' (LamX.CodeO c' (X.env.qual ++ "<lambda>"))) := ⟨fun b o n e => by
      rw [upd_ne (ne_of_none e nC), upd_ne n]
      exact e, fun b e => by
      by_cases b1 : b = c'
      · rw [b1, upd_same] at e; cases e
      · rw [upd_ne b1] at e
        by_cases b2 : b = P
        · rw [b2, upd_same] at e; cases e
        · rwa [upd_ne b2] at e⟩
    have codeUp : ∀ {c0 : Addr} {q : Str}, H c0 = some (LamX.CodeO c0 q) → upd (upd H P (.tbl (ps ++ #[rawInt pos.line, rawInt pos.col, .ref c']))) c' (LamX.CodeO c' (X.env.qual ++ "<lambda>")) c0 = some (LamX.CodeO c0 q) := fun {c0 q} e =>
      up.up _ _ (fun z => by rw [z, hP] at e; exact LamX.codeO_ne ps (Option.some.inj e).symm) e
    have eL : (ps ++ #[rawInt pos.line, rawInt pos.col, .ref c']).toList = ps.toList ++ [rawInt pos.line, rawInt pos.col, .ref c'] := by simp
    refine h h'.objs.size c' ((X.mg "__name__").getD .none) ctv _ _ I1 up (fun p hp => ?_) (Heap.get?_push_size _ rfl) ?_ (nofr _ hsz) upd_same
    · by_cases hb : p.1 = P
      · rw [hu p hp hb, hb]
        refine ⟨_, by rw [upd_ne PC, upd_same], by rw [eL]; exact PySem.TriplesOk_snoc _ _ _ _ ht, fun p' cv hcv => ?_⟩
        rw [eL] at hcv
        rcases LamX.among_app _ ht hcv with z | z
        · obtain ⟨c0, e1, e2⟩ := ha p' cv z
          exact ⟨c0, e1, codeUp e2⟩
        · exact ⟨c', z, upd_same⟩
      · obtain ⟨ps', a1, a2, a3⟩ := hT p hp
        refine ⟨ps', up.up _ _ hb a1, a2, fun p' cv hcv => ?_⟩
        obtain ⟨c0, e1, e2⟩ := a3 p' cv hcv
        exact ⟨c0, e1, codeUp e2⟩
    · rw [upd_ne (Nat.ne_of_gt hlt), upd_ne (Nat.ne_of_gt (Nat.lt_of_lt_of_le (Heap.lt_size hP') hsz))]
      exact I.hok.fresh hsz
end
/-- x(lambda: body): T tables, P the maker's; TT what x makes of it -/
def tLm (P : Addr) (q : Str) (TT : (XK → Hp → VK → Prop) → Hp → VK → Prop) (t : XK → TE) : TE := fun σ H Q => ∃ T : List (Addr × Str), (P, q) ∈ T ∧ (∀ p ∈ T, p.1 = P → p.2 = q) ∧ LamX.Tabs T H ∧ ∀ H1, ButT P H H1 → LamX.Tabs T H1 → TT (fun E H' Q' => t E σ H' Q') H1 Q
section
variable {X : Cx}
theorem pe_lm {TT : (XK → Hp → VK → Prop) → Hp → VK → Prop} {x a : Str} {g c P : Addr} {k : Nat} {pg : Arguments} {bg : List Stmt} {sg : Scope} {dV kV doc pm cdv ct oc : Value} {an od : Option Addr} {osl : Array (Option Value)} {Ng : List Str}
    {params : Arguments} {body : Expr} {scope : Scope} {t : XK → TE} {p lpos pos : Pos} (hg : Gl X x) (hm : X.mg x = some (.ref g)) (hk : PySem.W.keepIn X.K (.ref g) = true)
    (lk : X.K.lookup g = some ⟨oc, od, .func (PySem.W.fnOf x x pg bg sg dV kV doc pm an cdv ct), osl⟩) (hcg : PySem.W.codeIn X.K cdv x = true) (hb : L2.Binds X.K (PySem.W.fnOf x x pg bg sg dV kV doc pm an cdv ct) [a] []) (Sg : FnScope Ng [a] sg) (hNg : Ng[0]? = some a) (hva : Vis sg a)
    (hG : LamX.GivesTo X Ng x sg g cdv bg a (X.env.qual ++ "<lambda>") TT) (TB : LamX.TabB X.base X.mg c P) (hcode : X.env.code = .ref c) (hr : Room (k + 2) X.A) (L : LamX.LamS X.env.scope scope) (hdef : defaultsOf params X.env = ([], []))
    (hbind : ∀ (q : Str) (cl : List (Str × Addr)) (pm cv ctv : Value), bindArgs (PySem.W.kla_fn "<lambda>" q params body scope cl pm cv ctv) ⟨[], []⟩ = pure [])
    (hbody : ∀ (A : Around) (outer : List Env) (s : Shared) (H : Hp) (E : XK) (f c' : Addr), Room k (A.deeper (LamX.lamEnv X scope s.heap.objs.size f c')) → PE (LamX.lamCx X A outer s H E scope f c') body (t E))
    (hdb : (x == ("__debug__" : Str)) = false) (hd : (a == ("__debug__" : Str)) = false) (hcd : (a == ("__classdict__" : Str)) = false) :
    PE X (.Call (.Name x p) [.Lambda params body scope lpos] [] pos) (tLm P (X.env.qual ++ "<lambda>") TT t) := by
  refine ⟨fun pins s σ H Q I ⟨T, hmT, hu, hT, h⟩ => ?_⟩
  refine wpAny_Call_Name_kw (ld_glob I hg hm (PySem.W.callWith_K (h₀ := X.base) I.ok.mod.kin hk ?_ rfl rfl) hdb)
  show wpAny _ _ (spliced ((false, eval (.Lambda params body scope lpos) X.env) :: backTo pos (starEach [] X.env))) _ _ s
  refine Calls.spliced_cons (lam_mk I TB hcode hmT hu hT hdef (L.has I.ok) fun f c' pm' ctv H1 s' I1 up T1 hf hfn hfr hco => Calls.spliced_nil ⟨I1.kIn, ?_⟩)
  have rc : codeAny (model X.prog X.w) X.A (.call (.ref g) ⟨[.ref f], []⟩) (CR C8.CX0 X.stack X.prog X.w H1 s' Q C8.E0) s' := by
    refine LamX.run_ofS (N := Ng) (ps := [a]) (us := [.ref f]) (vs := [.ref f]) lk hcg Sg hr I1.env0 (hb s' [.ref f] I1.kIn rfl) (.cons rfl .nil) rfl fun hr' => ?_
    obtain ⟨t', ht', hq'⟩ := hG f c' s' H1 Q (fun E H' Q' => t E σ H' Q') (fun W pn xe E p1 p2 tk hW => LamX.pe_act (i := 0) I1 L hf hfn hfr (hbind _ _ _ _ _) tk hW hr' (fun A outer s H hr2 => hbody A outer s H E f c' hr2) hNg hva hd hcd) hco (h H1 up T1)
    exact ⟨t', ht'.nox, hq'⟩
  refine wpAny_call (codeAny_mono rc fun r s2 hq => ?_)
  cases r with
  | error e => exact (show False from hq).elim
  | ok fl =>
    cases fl with
    | ret u => exact I1.after hq
    | next => exact False.elim hq
    | brk => exact False.elim hq
    | cont => exact False.elim hq
end
end PB
end
section
set_option Elab.async false
set_option linter.all false
set_option maxRecDepth 100000
set_option maxHeartbeats 2000000
/-! PBL3: the teller: what a call tells, or the word of its error. -/
namespace PB
open PySem PySem.Spec PyProof.Rows L2
def hdOf : ExceptHandler → Option (Str × List Str × Str)
  | .ExceptHandler (some (.Name D _)) (some n) [.Return (some (.List [.Constant (.str w) _ _, .Attribute (.Name m _) f _] _)) _] _ => if n = Str.ofString "e" ∧ m = Str.ofString "e" then some (D, [w], f) else none
  | _ => none
def hdsOf : List ExceptHandler → Option (List (Str × List Str × Str))
  | [] => some []
  | h :: hs => match hdOf h, hdsOf hs with
    | some x, some xs => some (x :: xs)
    | _, _ => none
/-- the clauses of a teller's body -/
def toldB : List Stmt → Option (List (Str × List Str × Str))
  | [.Try [.Return (some (.List [.Constant (.str w) _ _, .Call (.Name a _) [] [] _] _)) _] (h :: hs) [] [] _] => if w = Str.ofString "told" ∧ a = Str.ofString "ask" then hdsOf (h :: hs) else none
  | _ => none
abbrev toldN : List Str := ["ask", "e"]
section
variable {X : Cx} {A : Cad}
/-- a clause's class -/
structure HdOk (X : Cx) (A : Cad) (sg : Scope) (h : Str × List Str × Str) : Prop where
  gl : sg.names.lookup h.1 = some .globalImplicit
  mg : X.mg h.1 = some (.ref (A.ad h.1))
  db : (h.1 == ("__debug__" : Str)) = false
  xf : XfC X.K (A.ad h.1)
  no : PySem.W.findIn X.K (.ref (A.ad h.1)) h.2.2 = some none
/-- the wish of the clauses -/
def chn (K : PySem.W.Frag) (A : Cad) (Q : VK) : List (Str × List Str × Str) → Value → Option Addr → Hp → Prop
  | [], _, _, _ => False
  | h :: r, cls, d, H => ∃ b, PySem.W.exmOne K cls (.ref (A.ad h.1)) = some b ∧ (b = true → cls = .ref (A.ad h.1) ∧ ∃ dd fs v, d = some dd ∧ H dd = some (.xd fs) ∧ fs.lookup h.2.2 = some v ∧ ∀ p, H p = none → Q (.ref p) (upd H p (.lst (h.2.1.map V.str ++ [v])))) ∧ (b = false → chn K A Q r cls d H)
def TTd (K : PySem.W.Frag) (A : Cad) (hs : List (Str × List Str × Str)) : (XK → Hp → VK → Prop) → Hp → VK → Prop := fun tl H Q =>
  tl (fun cls d H' => chn K A Q hs cls d H') H (fun x H' => [V.str (Str.ofString "told"), x].length ≤ sizeLine ∧ ∀ p, H' p = none → Q (.ref p) (upd H' p (.lst [.str (Str.ofString "told"), x])))
theorem hdn_of {Y : Cx} {sg : Scope} (hN : Y.N = toldN) (hsc : Y.env.scope = sg) (hK : Y.K = X.K) (hM : Y.mg = X.mg) (he : sg.names.lookup ("e" : Str) = some .local) : ∀ {hds : List ExceptHandler} {hs : List (Str × List Str × Str)}, hdsOf hds = some hs → (∀ h ∈ hs, HdOk X A sg h) →
    ∃ l, HdN Y "e" hds l ∧ ∀ cls d σ H D, chn X.K A D.rt hs cls d H → wNm X.K 1 D l cls d σ H
  | [], hs, h, _ => by
    cases h
    exact ⟨[], .nil, fun _ _ _ _ _ z => z⟩
  | hd :: hds, hs, h, ok => by
    unfold hdsOf at h
    split at h
    · rename_i x xs h1 h2
      cases h
      obtain ⟨l, a1, a2⟩ := hdn_of hN hsc hK hM he h2 fun h z => ok h (List.mem_cons_of_mem _ z)
      have o := ok x List.mem_cons_self
      unfold hdOf at h1
      split at h1
      · rename_i D p1 n w k p2 m p3 f p4 p5 p6 p7
        split at h1
        · rename_i c
          obtain ⟨rfl, rfl⟩ := c
          cases h1
          have gl : Names Y D (.ref (A.ad D)) := ⟨by show Y.env.scope.names.lookup D = _; rw [hsc]; exact o.gl, o.db, .inl (by rw [hM]; exact o.mg)⟩
          refine ⟨_, .cons (ts := fun a cls d => tRet (tLst (tCons (tC (.str w)) (tCons (tXf a cls d (A.ad D) f (tVar 1)) tNil)))) gl (fun a oe cls d pn hz hf => ?_) a1, fun cls d σ H Dd ⟨b, b1, b2, b3⟩ => ⟨b, b1, fun hb a ha hl => ?_, fun hb => a2 cls d σ H Dd (b3 hb)⟩⟩
          · have T : XfC Y.K (A.ad D) := by rw [hK]; exact o.xf
            have no : PySem.W.findIn Y.K (.ref (A.ad D)) f = some none := by rw [hK]; exact o.no
            have nm : PE (Y.suite a ((a, oe) :: pn)) (.Name (Str.ofString "e") p3) (tVar 1) := pe_var (X := Y.suite a ((a, oe) :: pn)) (by show Y.N[1]? = _; rw [hN]; rfl) (.inl (by show Y.env.scope.names.lookup _ = _; rw [hsc]; exact he)) (by decide) (by decide)
            exact pss_one (ps_ret (pe_lst (pa_cons pe_str (pa_cons (pe_xf T no hz hf nm) pa_nil))))
          · obtain ⟨e1, dd, fs, v, e2, e3, e4, e5⟩ := b2 hb
            exact ⟨.ref a, by rw [List.getElem?_set_self hl], rfl, e1, dd, fs, v, e2, e3, e4, (by show 2 ≤ sizeLine; decide), e5⟩
        · cases h1
      · cases h1
    · cases h
theorem td_gives {x q : Str} {sg : Scope} {g : Addr} {cdg : Value} {bg : List Stmt} {hs : List (Str × List Str × Str)} (hb : toldB bg = some hs) (ok : ∀ h ∈ hs, HdOk X A sg h) (ha : sg.names.lookup ("ask" : Str) = some .local) (he : sg.names.lookup ("e" : Str) = some .local) :
    LamX.GivesTo X toldN x sg g cdg bg "ask" q (TTd X.K A hs) := by
  intro f c' s H Q tl act hc h
  unfold toldB at hb
  split at hb
  · rename_i w k p1 a p2 p3 p4 p5 hd hds p6
    split at hb
    · rename_i c
      obtain ⟨rfl, rfl⟩ := c
      obtain ⟨l, a1, a2⟩ := hdn_of (X := X) (A := A) (Y := (cxOf C8.CX0 X.prog X.w X.K X.mg X.base toldN x sg g cdg X.A X.stack s H C8.E0).nox) rfl rfl rfl rfl he hb ok
      refine ⟨_, pss_one (ps_try_nm (X := (cxOf C8.CX0 X.prog X.w X.K X.mg X.base toldN x sg g cdg X.A X.stack s H C8.E0).nox) (n := "e") (i := 1)
        (tb := fun W D σ H => ∃ Ech : XK, (∀ cls d σ' H', Ech cls d H' → W cls d σ' H') ∧ σ[0]? = some (some (.ref f)) ∧ H c' = some (LamX.CodeO c' q) ∧ tl Ech H (fun x H' => [V.str (Str.ofString "told"), x].length ≤ sizeLine ∧ ∀ p, H' p = none → D.rt (.ref p) (upd H' p (.lst [.str (Str.ofString "told"), x]))))
        rfl rfl (by show toldN.Nodup; decide) rfl he (fun W pn xe tk _ => ?_) a1), ?_⟩
      · refine ⟨fun pins s' σ H' D I ⟨Ech, hW, h1, h2, h3⟩ => ?_⟩
        have hq := pss_one (ps_ret (pos := p5) (pe_lst (pos := p4) (pa_cons (pe_str (x := Str.ofString "told") (j := k) (pos := p1)) (pa_cons (act W pn xe Ech p2 p3 tk hW) pa_nil))))
        exact hq.run pins s' σ H' D I ⟨h1, h2, h3⟩
      · exact ⟨fun cls d H' => chn X.K A Q hs cls d H', fun cls d σ' H' z => a2 cls d σ' H' _ z, rfl, hc, h⟩
    · cases hb
  · cases hb
end
end PB
end
section
set_option Elab.async false
set_option linter.all false
set_option maxRecDepth 100000
set_option maxHeartbeats 2000000
/-! PBL4: the teller, translated. -/
namespace PB
open PySem PySem.Spec PyProof.Rows L2
section
variable {A : Cad} {K : PySem.W.Frag} {XE : XK} {C : Orc} {X : Cx}
/-- a lambda's table is written -/
theorem butT_ok {W : Wd} {H H1 : Hp} {σ : L2.St} {e : Ev} {P : Addr} {q : Str} (E : EnvOk A K W H σ e) (up : ButT P H H1) (T1 : LamX.Tabs W.tb H1) (hP : (P, q) ∈ W.tb) : EnvOk A K W H1 σ e ∧ Stp true W H e.s σ W H1 e.s := by
  have ne : ∀ {a o}, H a = some o → isTb o = false → a ≠ P := fun {a o} h n => (E.tab (d := (P, P)) h n rfl hP).1
  refine ⟨⟨fun a o g => ?_, ?_, ?_, E.len, fun i r h => ?_, E.dj, E.nd⟩, ⟨.refl W, fun a o h _ n => up.up a o (n (P, P) (.inr ⟨rfl, q, hP⟩)).1 h, up.dn, fun _ _ g => .inl g, fun _ _ w => w, fun _ h => .inl h⟩⟩
  · rcases E.le a o g with z | ⟨z1, ob, z⟩
    · exact .inl (up.up _ _ (ne z (W.gt _ _ g)) z)
    · exact .inr ⟨z1, ob, up.up _ _ (ne z rfl) z⟩
  · have z := E.dr
    unfold DrOk at z ⊢
    cases e1 : e.d with
    | none =>
      rw [e1] at z
      cases e2 : W.dr with
      | none => trivial
      | some d => rw [e2] at z; exact z
    | some D =>
      rw [e1] at z
      cases e2 : W.dr with
      | none => rw [e2] at z; exact z
      | some d =>
        rw [e2] at z
        obtain ⟨x, y⟩ := d
        obtain ⟨z1, z2, z3, z4, z5⟩ := z
        exact ⟨z1, z2, z3, up.up _ _ (ne z4 rfl) z4, up.up _ _ (ne z5 rfl) z5⟩
  · obtain ⟨z1, z2⟩ := E.sc
    exact ⟨⟨z1.1, T1⟩, z2.imp (fun ⟨o, h⟩ => ⟨o, up.up _ _ (ne h rfl) h⟩) id⟩
  · obtain ⟨v, h1, h2⟩ := E.sl i r h
    refine ⟨v, h1, ?_⟩
    obtain ⟨o, t⟩ := r
    cases o with
    | false => exact h2
    | true =>
      obtain ⟨p, e1, g, o, ho, ow⟩ := (show ∃ p, v = .ref p ∧ Own A W H t p from h2)
      exact (show ∃ p, v = .ref p ∧ Own A W H1 t p from ⟨p, e1, g, o, up.up _ _ (ne ho (OwnO.tb ow)) ho, ow⟩)
theorem fzF_look {W : Wd} {f : Str} : ∀ {fs : List (Str × T)} {ws : List (Str × V)} {t : T}, FzF A W fs ws → lookF fs f = some t → ∃ v, ws.lookup f = some v ∧ Fz A W t v
  | [], _, t, _, h => by simp [lookF] at h
  | (k, u) :: fs, (k', v) :: ws, t, g, h => by
    simp only [FzF] at g
    obtain ⟨e, g1, g2⟩ := g
    subst e
    unfold lookF at h
    by_cases c : k = f
    · subst c
      simp only [List.find?_cons, decide_true, Option.map_some, Option.some.injEq] at h
      subst h
      exact ⟨v, by simp, g1⟩
    · have z : lookF fs f = some t := by
        unfold lookF
        simpa only [List.find?_cons, c, decide_false] using h
      obtain ⟨v', h1, h2⟩ := fzF_look g2 z
      refine ⟨v', ?_, h2⟩
      have : (f == k) = false := by simpa using Ne.symm c
      simp only [List.lookup_cons, this]
      exact h1
  | _ :: _, [], _, g, _ => by simp only [FzF] at g
/-- the classes of the clauses, told apart -/
def HsX (K : PySem.W.Frag) (A : Cad) (hs : List (Str × List Str × Str)) : Prop := ∀ h ∈ hs, ∀ h' ∈ hs, PySem.W.exmOne K (.ref (A.ad h.1)) (.ref (A.ad h'.1)) = some (decide (h'.1 = h.1))
theorem caught_mem : ∀ {hs : List (Str × List Str × Str)} {Cn : Str} {fs : List (Str × T)} {r : R}, caught true hs Cn fs = some r → ∃ h ∈ hs, h.1 = Cn ∧ ∃ t, r = toldT true h.2.1 t
  | [], _, _, _, h => by simp [caught] at h
  | (D, ws, f) :: hs, Cn, fs, r, h => by
    unfold caught at h
    split at h
    · rename_i e
      simp only [Option.map_eq_some_iff] at h
      obtain ⟨t, h1, h2⟩ := h
      exact ⟨_, List.mem_cons_self, e, t, h2.symm⟩
    · obtain ⟨g, h1, h2⟩ := caught_mem h
      exact ⟨g, List.mem_cons_of_mem _ h1, h2⟩
theorem chn_of {W : Wd} {H : Hp} {fs : List (Str × T)} {ws : List (Str × V)} {Cn : Str} {dd : Addr} {r : R} {Q : VK} (hd : H dd = some (.xd ws)) (ff : FzF A W fs ws) (k : ∀ (l : List Str) (t : T) (v : V), Fz A W t v → r = toldT true l t → ∀ p, H p = none → Q (.ref p) (upd H p (.lst (l.map V.str ++ [v])))) :
    ∀ {hs : List (Str × List Str × Str)}, (∀ h' ∈ hs, PySem.W.exmOne K (.ref (A.ad Cn)) (.ref (A.ad h'.1)) = some (decide (h'.1 = Cn))) → caught true hs Cn fs = some r → chn K A Q hs (.ref (A.ad Cn)) (some dd) H
  | [], _, h => by simp [caught] at h
  | (D, l, f) :: hs, hx, h => by
    refine ⟨decide (D = Cn), hx _ List.mem_cons_self, fun hb => ?_, fun hb => ?_⟩
    · obtain rfl : D = Cn := of_decide_eq_true hb
      unfold caught at h
      rw [if_pos rfl] at h
      simp only [Option.map_eq_some_iff] at h
      obtain ⟨t, h1, h2⟩ := h
      obtain ⟨v, h3, h4⟩ := fzF_look ff h1
      exact ⟨rfl, dd, ws, v, rfl, hd, h3, k l t v h4 h2.symm⟩
    · have ne : ¬ D = Cn := of_decide_eq_false hb
      unfold caught at h
      rw [if_neg ne] at h
      exact chn_of hd ff k (fun h' z => hx h' (List.mem_cons_of_mem _ z)) h
theorem fzL_strs {W : Wd} : ∀ l : List Str, FzL A W (l.map T.str) (l.map V.str)
  | [] => by simp only [List.map_nil, FzL]
  | s :: l => by
    simp only [List.map_cons, FzL, Fz, true_and]
    exact fzL_strs l
/-- the teller's def -/
def TdK (X : Cx) (A : Cad) (x : Str) (hs : List (Str × List Str × Str)) : Prop :=
  (x == ("__debug__" : Str)) = false ∧ HsX X.K A hs ∧ ∃ (g : Addr) (pg : Arguments) (bg : List Stmt) (sg : Scope) (dV kV doc pm cdv ct oc : Value) (an od : Option Addr) (osl : Array (Option Value)), X.mg x = some (.ref g) ∧ PySem.W.keepIn X.K (.ref g) = true ∧
    X.K.lookup g = some ⟨oc, od, .func (PySem.W.fnOf x x pg bg sg dV kV doc pm an cdv ct), osl⟩ ∧ PySem.W.codeIn X.K cdv x = true ∧ L2.Binds X.K (PySem.W.fnOf x x pg bg sg dV kV doc pm an cdv ct) ["ask"] [] ∧ FnScope toldN ["ask"] sg ∧
    sg.names.lookup ("ask" : Str) = some .local ∧ sg.names.lookup ("e" : Str) = some .local ∧ toldB bg = some hs ∧ ∀ h ∈ hs, HdOk X A sg h
/-- where a lambda may be made -/
def LamF (A : Cad) (lv : Nat) (X : Cx) : Prop := Room (lv + 3) X.A ∧ ∃ c P, X.env.code = .ref c ∧ LamX.TabB X.base X.mg c P ∧ (P, X.env.qual ++ "<lambda>") ∈ A.tb ∧ ∀ p ∈ A.tb, p.1 = P → p.2 = X.env.qual ++ "<lambda>"
abbrev noPar : Arguments := { posonlyargs := [], args := [], vararg := none, kwonlyargs := [], kw_defaults := [], kwarg := none, defaults := [] }
theorem b_told {x : Str} {hs : List (Str × List Str × Str)} {body : Expr} {ls : Scope} {ib : Ex} {lv : Nat} {p lpos pos : Pos} (hK : X.K = K) (hg : Gl X x) (td : TdK X A x hs) (lam : LamF A lv X) (L : LamX.LamS X.env.scope ls)
    (hbody : ∀ (A' : Around) (outer : List Env) (s : Shared) (H : Hp) (E : XK) (f c' : Addr), Room (lv + 1) (A'.deeper (LamX.lamEnv X ls s.heap.objs.size f c')) → Pe A K E C (LamX.lamCx X A' outer s H E ls f c') body ib) :
    Pe A K XE C X (.Call (.Name x p) [.Lambda noPar body ls lpos] [] pos) (.told true ib hs) := by
  obtain ⟨hdb, hsx, g, pg, bg, sg, dV, kV, doc, pm, cdv, ct, oc, an, od, osl, hm, hk, lk, hcg, hb, Sg, ha, he, htb, hok⟩ := td
  obtain ⟨hr, c, P, hcode, TB, hPT, hPu⟩ := lam
  subst hK
  refine PE.mono (pe_lm (t := fun E => tE A X.K E ib.quiet (ev C ib)) hg hm hk lk hcg hb Sg rfl (.inl ha) (td_gives htb hok ha he) TB hcode hr L rfl (fun _ _ _ _ _ => rfl) (fun A' outer s H E f c' hr2 => hbody A' outer s H E f c' hr2) hdb (by decide) (by decide)) fun σ H Q hh => ?_
  obtain ⟨W, e, out, e', E, hm, hp⟩ := hh
  have hw := E.sc.1.1.2
  refine ⟨W.tb, by rw [hw]; exact hPT, by rw [hw]; exact hPu, E.sc.1.2, fun H1 up T1 => ?_⟩
  obtain ⟨E1, S1⟩ := butT_ok E up T1 (by rw [hw]; exact hPT)
  simp only [ev] at hm
  have S1 : Stp false W H e.s σ W H1 e.s := S1.weak fun z => rfl
  cases hv : ev C ib e with
  | none => rw [hv] at hm; cases hm
  | some z =>
    obtain ⟨o, e2⟩ := z
    rw [hv] at hm
    refine ⟨W, e, o, e2, E1, hv, fun W2 H2 E2 S2 => ?_⟩
    have S12 : Stp false W H e.s σ W2 H2 e2.s := S1.trans (S2.weak fun z => by cases z)
    cases o with
    | ok r =>
      cases hm
      intro v rv
      refine ⟨by show 2 ≤ sizeLine; decide, ?_⟩
      obtain ⟨W3, E3, S3, f3, _⟩ := res_fz E2 S12 (fun i a w => E.owt i a w) (fun p z => S1.dom p z) rv
      exact Kon.lst (ts := [.str (Str.ofString "told"), r.2]) (fun W' H' v E' S' R' => hp W' H' E' S' v R') E3 S3 (by simp only [FzL, Fz, and_true, true_and]; exact f3)
    | exc Cn fs =>
      simp only at hm
      split at hm
      · rename_i r hc
        cases hm
        intro cls d ex
        obtain ⟨e3, dd, ws, e4, hd, ff⟩ := ex
        subst e3 e4
        obtain ⟨h0, m0, z0, _⟩ := caught_mem hc
        refine chn_of hd ff (fun l t v fv er => ?_) (fun h' z => by rw [← z0]; exact hsx h0 m0 h' z) hc
        subst er
        exact Kon.lst (ts := l.map T.str ++ [t]) (fun W' H' v E' S' R' => hp W' H' E' S' v R') E2 S12 ((fzL_strs l).app (.one fv))
      · cases hm
end
end PB
end
section
set_option Elab.async false
set_option linter.all false
set_option maxRecDepth 100000
/-! PBT: a chained comparison as a test. -/
namespace PB
open PySem PySem.Spec PyProof.Rows L2
section
variable {A : Cad} {K : PySem.W.Frag} {XE : XK} {C : Orc} {X : Cx} {pos p : Pos} {a b c d : Expr} {ia ib ic id : Ex}
theorem chain_bl {p p' : Cop} {e e' : Ev} {r : R} (h : ev C (.chain p p' ia ib ic) e = some (.ok r, e')) : ∃ k, r = (false, .bl k) := by
  simp only [ev] at h
  obtain ⟨_, _, _, h⟩ := bnd_okk h
  obtain ⟨_, _, _, h⟩ := bnd_okk h
  obtain ⟨x, _, _, h⟩ := bnd_okk h
  obtain ⟨y, _, _, h⟩ := bnd_okk h
  obtain ⟨k, _, _, h⟩ := bnd_okk h
  cases k with
  | false =>
    simp only [Bool.false_eq_true, if_false, ret, Option.some.injEq, Prod.mk.injEq, Out.ok.injEq] at h
    exact ⟨false, h.1.symm⟩
  | true =>
    simp only [if_true] at h
    obtain ⟨z, _, _, h⟩ := bnd_okk h
    obtain ⟨r', h1, h2, _⟩ := opt_some h
    cases h2
    simp only [Option.map_eq_some_iff] at h1
    obtain ⟨k, _, h5⟩ := h1
    exact ⟨k, h5.symm⟩
theorem t_chain {o o' : CmpOp} {p p' : Cop} (hu : X.A.units + 64 < cLine) (hK : X.K = K) (ho : copOf o = some p) (ho' : copOf o' = some p') (hmk : lastMarks [o, o'] [b, c] = false)
    (ha : Pr A K XE C X a ia) (hb : Pr A K XE C X b ib) (hc : Pr A K XE C X c ic) : Pt A K XE C X (.Compare a [o, o'] [b, c] pos) (.chain p p' ia ib ic) := by
  refine PT.mono (pt_chain (op_cmp hu ho) (op_cmp hu ho') ha hb hc hmk) fun σ H Q hh => ?_
  obtain ⟨W, e, out, e', E, hm0, hp0⟩ := hh
  rw [tsm_other rfl] at hm0
  -- as a value
  obtain ⟨o2, hm, hp⟩ : ∃ o2, ev C (.chain p p' ia ib ic) e = some (o2, e') ∧ Post A K XE (Ex.chain p p' ia ib ic).quiet (rE A) W H e.s σ o2 e' (fun v H1 => ∃ k, v = .bl k ∧ Q k H1) := by
    rcases bnd_some hm0 with ⟨r, e1, h1, h2⟩ | ⟨Cx, fs, h1, h2⟩
    · obtain ⟨k, hk⟩ := chain_bl h1
      subst hk
      obtain ⟨k', h3, h4, h5⟩ := opt_some h2
      simp only [T.tru, Option.some.injEq] at h3
      subst h3 h4 h5
      refine ⟨_, h1, fun W' H' E' S' v rv => ⟨k, ?_, hp0 W' H' E' S' k rfl⟩⟩
      have z : Fz A W' (.bl k) v := rv
      simpa only [Fz] using z
    · subst h2
      exact ⟨_, h1, fun W' H' E' S' cls d x => hp0 W' H' E' S' cls d x⟩
  clear hm0 hp0
  simp only [ev] at hm
  obtain ⟨hg, hm⟩ := gd_ok hm
  obtain ⟨hg', hm⟩ := gd_ok hm
  have hq : (Ex.chain p p' ia ib ic).quiet = true → ia.quiet = true ∧ ib.quiet = true ∧ ic.quiet = true := fun z => by
    simp only [Ex.quiet, Bool.and_eq_true] at z
    exact ⟨z.1.1, z.1.2, z.2⟩
  refine step E (.refl _ W H e.s σ) hm hp (fun z => (hq z).1) fun x e1 W1 H1 v1 hm E1 S1 s1 r1 => ?_
  refine step E1 S1 hm hp (fun z => (hq z).2.1) fun y e2 W2 H2 v2 hm E2 S2 s2 r2 => ?_
  obtain ⟨k, h4, hm⟩ := bnd_opt hm
  rw [hK]
  refine cmp_ok h4 E2 (r1.keep A s2 E2.le hg).rv r2.rv ⟨k, rfl, ?_⟩
  cases k with
  | false =>
    simp only [Bool.false_eq_true, if_false] at hm ⊢
    cases hm
    exact hp W2 H2 E2 S2 _ (by show Fz A W2 _ _; simp only [Fz])
  | true =>
    simp only [if_true] at hm ⊢
    refine step E2 S2 hm hp (fun z => (hq z).2.2) fun z e3 W3 H3 v3 hm E3 S3 s3 r3 => ?_
    obtain ⟨r, h1, h2, h3⟩ := opt_some hm
    subst h2 h3
    simp only [Option.map_eq_some_iff] at h1
    obtain ⟨k, h4, h5⟩ := h1
    subst h5
    exact cmp_ok h4 E3 (r2.keep A s3 E3.le hg').rv r3.rv (hp W3 H3 E3 S3 _ (by show Fz A W3 _ _; simp only [Fz]))
end
end PB
end
section
set_option Elab.async false
set_option linter.all false
set_option maxRecDepth 100000
/-! PB30: the translation's rules joined: what is asked of the world. -/
namespace PB
open PySem PySem.Spec PyProof.Rows L2
/-- what the tables say, in the world of X -/
structure TabOk (A : Cad) (C : Orc) (lv : Nat) (τ : Tab) (X : Cx) : Prop where
  O : ClsOk X.K A
  p1 : ∀ x p, p1Of x = some p → X.mg x = none
  p2 : ∀ x p, p2Of x = some p → X.mg x = none
  ty : ∀ x c, tyOf x = some c → X.mg x = none
  bi : ∀ x ∈ [Str.ofString "isinstance", Str.ofString "range", Str.ofString "enumerate", Str.ofString "zip", Str.ofString "list"], X.mg x = none
  fn : ∀ x k n, τ.fn.lookup x = some (k, n) → (x == ("__debug__" : Str)) = false ∧ ((∃ fa fd ps, FnK X A C (lv + 1) x k n fa fd ps) ∨ ∃ fa fd ps, MkK X A C lv x k n fa fd ps)
  mt : ∀ m c k n, τ.mt.lookup m = some (c, k, n) → ∃ fa fd ps, MtK X A C (lv + 1) c m k (n + 1) fa fd ps
  co : ∀ x s, τ.co.lookup x = some s → (∃ t, X.mg x = some (.str s t)) ∧ (x == ("__debug__" : Str)) = false
  cl : ∀ x, τ.cl.contains x = true → A.cl.contains x = true ∧ X.mg x = some (.ref (A.ad x)) ∧ (x == ("__debug__" : Str)) = false
  fl : ∀ f, τ.fl.contains f = true → ∀ x ∈ A.cl, NoAttr X.K (A.ad x) f
  td : ∀ x t, τ.td.lookup x = some t → TdK X A x t.hs
  xc : ∀ x fs, τ.xc.lookup x = some fs → (x == ("__debug__" : Str)) = false ∧ ∃ f fI fd ps, fs = [f] ∧ XcK X A lv x f fI fd ps
structure XOk (A : Cad) (XE : XK) (C : Orc) (lv : Nat) (τ : Tab) (N : List Str) (sc : Scope) (X : Cx) : Prop where
  calm : X.calm = true
  nm : X.N = N
  se : X.env.scope = sc
  tk : Takes X fun c d _ H => XE c d H
  nd : N.Nodup
  kind : sc.kind = .function
  un : X.A.units + 64 < cLine
  rm : Room (lv + 1) X.A
  lam : okLam sc = true → τ.td = [] ∨ LamF A lv X
  tab : TabOk A C lv τ X
section
variable {A : Cad} {XE : XK} {C : Orc} {lv : Nat} {τ : Tab} {N : List Str} {sc : Scope} {X : Cx}
/-- an expression's rules -/
structure Ok (A : Cad) (XE : XK) (C : Orc) (X : Cx) (e : Expr) (ir : Ex) : Prop where
  pe : Pe A X.K XE C X e ir
  pn : Pn A X.K XE C X e ir
  pr : Pr A X.K XE C X e ir
  pt : tstOk e = true → Pt A X.K XE C X e ir
  ns : noStar e = true
  st : notSet e = true
  va : ∀ j, ir = .var j → PE X e (tVar j)
  dn : ∀ t t', ir = .dnew t → Pe A X.K XE C X e (.dnew t')
theorem Ok.mk1 {e : Expr} {ir : Ex} (h : Pe A X.K XE C X e ir) (v : ir.isVar = false) (ns : noStar e = true) (st : notSet e = true) (pt : tstOk e = true → Pt A X.K XE C X e ir) (dn : ∀ t t', ir = .dnew t → Pe A X.K XE C X e (.dnew t') := by intro t t' z; cases z) : Ok A XE C X e ir := ⟨h, pn_other v h, pr_other v h, pt, ns, st, (fun j z => by subst z; cases v), dn⟩
theorem Ok.mk2 {e : Expr} {ir : Ex} (h : Pe A X.K XE C X e ir) (v : ir.isVar = false) (ns : noStar e = true) (st : notSet e = true) (he : ∀ whole, isTrue e X.env whole = (do let v ← whole; standAt e.pos; holding [v] (truthy v))) (dn : ∀ t t', ir = .dnew t → Pe A X.K XE C X e (.dnew t') := by intro t t' z; cases z) : Ok A XE C X e ir :=
  .mk1 h v ns st (fun _ => t_plain rfl (pr_other v h) he) dn
theorem findIdx_at {N : List Str} {x : Str} {i : Nat} (h : N.findIdx? (· == x) = some i) : N[i]? = some x := by
  rw [List.findIdx?_eq_some_iff_getElem] at h
  obtain ⟨h1, h2, _⟩ := h
  rw [List.getElem?_eq_getElem h1]
  simpa using h2
theorem slot_at {x : Str} {i : Nat} (o : XOk A XE C lv τ N sc X) (h : slotOf N sc x = some i) : X.N[i]? = some x ∧ Vis X.env.scope x ∧ (x == ("__debug__" : Str)) = false ∧ (x == ("__classdict__" : Str)) = false := by
  unfold slotOf at h
  split at h
  · cases h
  · rename_i hc
    simp only [Bool.or_eq_true, not_or, Bool.not_eq_true] at hc
    rw [o.nm, o.se]
    refine ⟨?_, ?_, hc.1, hc.2⟩
    · split at h
      · exact findIdx_at h
      · exact findIdx_at h
      · exact findIdx_at h
      · cases h
    · split at h
      · rename_i z; exact .inl z
      · rename_i z; exact .inr (.inl z)
      · rename_i z; exact .inr (.inr z)
      · cases h
theorem gl_of {x : Str} (o : XOk A XE C lv τ N sc X) (h : isGl sc x = true) : Gl X x := by
  show X.env.scope.names.lookup x = some .globalImplicit
  rw [o.se]
  unfold isGl at h
  split at h
  · assumption
  · cases h
theorem x_var {x : Str} {i : Nat} {p : Pos} (o : XOk A XE C lv τ N sc X) (h : slotOf N sc x = some i) : Ok A XE C X (.Name x p) (.var i) := by
  obtain ⟨h1, h2, h3, h4⟩ := slot_at o h
  have pr : Pr A X.K XE C X (.Name x p) (.var i) := pr_var h1 h2 h3 h4 _
  exact ⟨pe_name h1 h2 h3 h4, pn_var h1 h2 h3 h4 _, pr, fun _ => t_plain rfl pr (fun _ => rfl), rfl, rfl, (fun j z => by cases z; exact pe_var h1 h2 h3 h4), (fun t t' z => by cases z)⟩
/-- several expressions' rules -/
def Oks (A : Cad) (XE : XK) (C : Orc) (X : Cx) : List Expr → List Ex → Prop
  | [], [] => True
  | e :: es, i :: is => Ok A XE C X e i ∧ Oks A XE C X es is
  | _, _ => False
theorem Oks.peL : ∀ {es : List Expr} {is : List Ex}, Oks A XE C X es is → PeL A X.K XE C X es is
  | [], [], _ => trivial
  | _ :: _, _ :: _, h => ⟨⟨h.1.ns, h.1.pe, h.1.pn⟩, Oks.peL h.2⟩
  | [], _ :: _, h => h.elim
  | _ :: _, [], h => h.elim
theorem Oks.all : ∀ {es : List Expr} {is : List Ex}, Oks A XE C X es is → es.all tstOk = true → PeAll A X.K XE C X es is
  | [], [], _, _ => trivial
  | e :: es, i :: is, h, t => by
    simp only [List.all_cons, Bool.and_eq_true] at t
    exact ⟨⟨h.1.pe, h.1.pr, h.1.pt t.1⟩, Oks.all h.2 t.2⟩
  | [], _ :: _, h, _ => h.elim
  | _ :: _, [], h, _ => h.elim
theorem x_callX {f : Str} {es : List Expr} {is : List Ex} {ir : Ex} {p pos : Pos} (o : XOk A XE C lv τ N sc X) (hg : isGl sc f = true) (h : callX τ f is = some ir) (hs : Oks A XE C X es is) : Ok A XE C X (.Call (.Name f p) es [] pos) ir := by
  unfold callX at h
  split at h
  · rename_i k n hl
    split at h
    · rename_i hn
      cases h
      subst hn
      obtain ⟨hd, hf⟩ := o.tab.fn f k _ hl
      have hx : Passes (L2.CX X.prog X.w) X XE := passes_call o.tk fun c d σ H z => z
      refine .mk2 ?_ rfl rfl rfl fun _ => rfl
      rcases hf with ⟨fa, fd, ps, F⟩ | ⟨fa, fd, ps, F⟩
      · exact b_call rfl hx (gl_of o hg) F o.rm hd hs.peL
      · exact b_make rfl hx (gl_of o hg) F o.rm hd hs.peL
    · cases h
  · cases h
theorem bn_of {x : Str} (o : XOk A XE C lv τ N sc X) (hg : isGl sc x = true) (hm : X.mg x = none) : Bn X x := ⟨gl_of o hg, hm⟩
theorem x_call1 {f : Str} {a : Expr} {ia ir : Ex} {p pos : Pos} (o : XOk A XE C lv τ N sc X) (hg : isGl sc f = true) (h : call1 τ f ia = some ir) (ha : Ok A XE C X a ia) : Ok A XE C X (.Call (.Name f p) [a] [] pos) ir := by
  unfold call1 at h
  split at h
  · rename_i q hq
    cases h
    exact .mk2 (b_p1 o.calm rfl hq (bn_of o hg (o.tab.p1 f q hq)) ha.ns ha.pr) rfl rfl rfl fun _ => rfl
  · exact x_callX o hg h ⟨ha, trivial⟩
theorem x_call2 {f : Str} {a b : Expr} {ia ib ir : Ex} {p pos : Pos} (o : XOk A XE C lv τ N sc X) (hg : isGl sc f = true) (h : call2 τ f ia ib = some ir) (ha : Ok A XE C X a ia) (hb : Ok A XE C X b ib) : Ok A XE C X (.Call (.Name f p) [a, b] [] pos) ir := by
  unfold call2 at h
  split at h
  · rename_i q hq
    cases h
    exact .mk2 (b_p2 o.calm hq (bn_of o hg (o.tab.p2 f q hq)) ha.ns hb.ns ha.pr hb.pr) rfl rfl rfl fun _ => rfl
  · exact x_callX o hg h ⟨ha, hb, trivial⟩
/-! classes' names -/
theorem x_cls {e : Expr} {c : Cl} (o : XOk A XE C lv τ N sc X) (h : clOf τ sc e = some c) : noStar e = true ∧ PE X e (tC (clV A c)) ∧ c.ok A.cl = true := by
  unfold clOf at h
  split at h
  · rename_i x p
    split at h
    · rename_i hg
      split at h
      · rename_i c' hc
        cases h
        have hm := o.tab.ty x c hc
        have hg := gl_of o hg
        unfold tyOf at hc
        split at hc
        · rename_i e; subst e; cases hc
          exact ⟨rfl, pe_bltn hg hm (by decide +kernel) rfl, rfl⟩
        split at hc
        · rename_i e; subst e; cases hc
          exact ⟨rfl, pe_bltn hg hm (by decide +kernel) rfl, rfl⟩
        split at hc
        · rename_i e; subst e; cases hc
          exact ⟨rfl, pe_bltn hg hm (by decide +kernel) rfl, rfl⟩
        split at hc
        · rename_i e; subst e; cases hc
          exact ⟨rfl, pe_bltn hg hm (by decide +kernel) rfl, rfl⟩
        split at hc
        · rename_i e; subst e; cases hc
          exact ⟨rfl, pe_bltn hg hm (by decide +kernel) rfl, rfl⟩
        split at hc
        · rename_i e; subst e; cases hc
          exact ⟨rfl, pe_bltn hg hm (by decide +kernel) rfl, rfl⟩
        · cases hc
      · split at h
        · rename_i hc
          cases h
          obtain ⟨h1, h2, h3⟩ := o.tab.cl x hc
          exact ⟨rfl, pe_glob (gl_of o hg) h2 rfl h3, h1⟩
        · cases h
    · cases h
  · cases h
theorem x_clss (o : XOk A XE C lv τ N sc X) : ∀ {es : List Expr} {cs : List Cl}, clsOf τ sc es = some cs → PcAll A X es cs ∧ (∀ c ∈ cs, c.ok A.cl = true) ∧ cs.length = es.length
  | [], cs, h => by
    simp only [clsOf, Option.some.injEq] at h
    subst h
    exact ⟨trivial, (fun c z => nomatch z), rfl⟩
  | e :: es, cs, h => by
    simp only [clsOf] at h
    split at h
    · rename_i c cs' h1 h2
      cases h
      obtain ⟨a1, a2, a3⟩ := x_cls o h1
      obtain ⟨b1, b2, b3⟩ := x_clss o h2
      refine ⟨⟨⟨a1, a2⟩, b1⟩, fun c z => ?_, by simp [b3]⟩
      rw [List.mem_cons] at z
      rcases z with z | z
      · subst z; exact a3
      · exact b2 c z
    · cases h
end
end PB
end
section
set_option Elab.async false
set_option linter.all false
set_option maxRecDepth 100000
/-! PBD: dict comprehensions with tuple keys: what a turn does. -/
namespace PB
open PySem PySem.Spec PyProof.Rows L2
section
variable {A : Cad} {K : PySem.W.Frag} {XE : XK} {C : Orc} {X : Cx} {pos p : Pos} {a b c d : Expr} {ia ib ic id : Ex}
/-- one turn of a dict's comprehension -/
def dcK (C : Orc) (k v : Ex) (own : List Nat) (g : Tg) (ifs : List Ex) (t : T) (acc : T) : M T := bnd (wiped own) fun _ => bnd (bindM g t) fun _ => bnd (tsts C ifs) fun b => if b then bnd (ev C k) fun x => bnd (ev C v) fun y => opt (dputT acc x.2 y.2) else ret acc
def dcM (C : Orc) (b0 : Bool) (k v : Ex) (own : List Nat) (g : Tg) (ifs : List Ex) (xs : List T) : M R := noExc (bnd saved fun s => bnd (walkL (dcK C k v own g ifs) xs (if b0 then .dT [] else .dK [])) fun acc => bnd (backM s own) fun _ => ret (true, acc))
theorem ev_dcomp (C : Orc) (b0 : Bool) (k v : Ex) (own : List Nat) (g : Tg) (it : It) (ifs : List Ex) : ev C (.dcomp b0 k v own g it ifs) = itD it (itL C it) (dcM C b0 k v own g ifs) := by
  funext e
  simp only [ev]
  rfl
theorem dcT_core {L : Lck} {J : L2.It} {q : Bool} {ek ey : Ex} {own : List Nat} {g : Tg} {ifs : List Ex} {xs : List T} {W0 W1 : Wd} {H0 H1 : Hp} {σ : L2.St} {e1 e' : Ev} {s0 : List (Option R)} {out : Out R} {Q : VK} (ok : ItOk A K L J W1 xs) (lw : LkW L W1) (lh : LkH L H1) (E1 : EnvOk A K W1 H1 σ e1)
    (S1 : Stp q W0 H0 s0 σ W1 H1 e1.s) (hm : dcM C true ek ey own g ifs xs e1 = some (out, e')) (hp : Post A K XE q (rE A) W0 H0 s0 σ out e' Q) (hgl : ∀ j ∈ g.slots, j ∈ own) (hqk : q = true → ek.quiet = true) (hqy : q = true → ey.quiet = true) (hqi : q = true → Ex.quiets ifs = true) {D : Addr} (hD : H1 D = none) :
    ∃ W : Nat → Nat → Hp → Prop, (∃ m, W 0 m (upd H1 D (.dT []))) ∧ ∀ i m H, W i m H → (J.stop i H ∧ Q (.ref D) H) ∨ (J.go i H ∧ ∃ Nx : Hp → Prop, (∀ H', Nx H' → ∃ m', m' < m ∧ W (i + 1) m' H') ∧ ∀ x H', J.yld i H x H' → gT A K g x (L2.wipe σ own) H' fun σ2 H2 => L2.wipe σ2 own = L2.wipe σ own ∧
      tT A K noX (Ex.quiets ifs) (tsts C ifs) σ2 H2 fun b H3 => if b = true then tE A K noX ek.quiet (ev C ek) σ2 H3 fun y H4 => tE A K noX ey.quiet (ev C ey) σ2 H4 fun z H5 => ∃ kvs kk bb, y = .ref bb ∧ H5 bb = some (.tup (kk.map kV)) ∧ H5 D = some (.dT kvs) ∧ kvs.length < sizeLine ∧ Nx (upd H5 D (.dT (putK kvs kk z))) else Nx H3) := by
  unfold dcM at hm
  obtain ⟨r, ho, hm0⟩ := noExc_some hm
  clear hm
  subst ho
  obtain ⟨s, ea, h1, hm⟩ := bnd_okk hm0
  clear hm0
  simp only [saved, Option.some.injEq, Prod.mk.injEq, Out.ok.injEq] at h1
  obtain ⟨h1, h2⟩ := h1
  subst h1 h2
  obtain ⟨accF, eF, hw, hm⟩ := bnd_okk hm
  obtain ⟨_, eB, hb, hm⟩ := bnd_okk hm
  simp only [backM, Option.some.injEq, Prod.mk.injEq, true_and] at hb
  simp only [ret, Option.some.injEq, Prod.mk.injEq, Out.ok.injEq] at hm
  obtain ⟨hm1, hm2⟩ := hm
  subst hm1 hm2 hb
  have Ew := E1.wipe own
  have ht0 : EnvOk A K W1 (upd H1 D (.dT [])) (L2.wipe σ own) ⟨wipeT e1.s own, e1.d⟩ := Ew.ext (upd_ext hD)
  refine ⟨fun i m H => m + i = xs.length ∧ ∃ W2 e2 acc vs, EnvOk A K W2 H (L2.wipe σ own) ⟨wipeT e2.s own, e2.d⟩ ∧ Stp q W1 H1 (wipeT e1.s own) (L2.wipe σ own) W2 H (wipeT e2.s own) ∧ Free W2 H (wipeT e2.s own) (L2.wipe σ own) D ∧ H D = some (.dT vs) ∧ FzT A W2 acc vs ∧ LkH L H ∧
    walkL (dcK C ek ey own g ifs) (xs.drop i) (.dT acc) e2 = some (.ok accF, eF), ⟨xs.length, by simp, W1, e1, [], [], ht0, (Stp.refl q W1 H1 _ _).ext (upd_ext hD), ⟨Ew.noG hD, fun i w => Ew.noOw hD i w, Ew.noDr hD⟩, upd_same, (by simp only [FzT]), fun d u z => by
      obtain ⟨o, g⟩ := lw d u z
      exact upd_ext hD _ _ (lh d u z), hw⟩, ?_⟩
  rintro i m H ⟨hmi, W2, e2, acc, vs, E2, S2, F2, hD2, f2, lk, h⟩
  obtain ⟨st, go⟩ := ok i W2 H _ _ E2 S2.wle lk
  by_cases hi : i < xs.length
  · have hd : xs.drop i = xs[i] :: xs.drop (i + 1) := List.drop_eq_getElem_cons hi
    rw [hd] at h
    obtain ⟨g1, g2⟩ := go xs[i] (List.getElem?_eq_getElem hi)
    simp only [walkL] at h
    obtain ⟨acc', e3, hk, hrest⟩ := bnd_okk h
    unfold dcK at hk
    obtain ⟨_, e2w, hz, hk⟩ := bnd_okk hk
    simp only [wiped, Option.some.injEq, Prod.mk.injEq, true_and] at hz
    subst hz
    obtain ⟨_, eb, hz, hk⟩ := bnd_okk hk
    obtain ⟨hb1, hb2⟩ := bindM_ok hz
    obtain ⟨kb, e4, ht, hk⟩ := bnd_okk hk
    refine .inr ⟨g1, fun H' => (m - 1) + (i + 1) = xs.length ∧ ∃ W2 e2 acc vs, EnvOk A K W2 H' (L2.wipe σ own) ⟨wipeT e2.s own, e2.d⟩ ∧ Stp q W1 H1 (wipeT e1.s own) (L2.wipe σ own) W2 H' (wipeT e2.s own) ∧ Free W2 H' (wipeT e2.s own) (L2.wipe σ own) D ∧ H' D = some (.dT vs) ∧ FzT A W2 acc vs ∧ LkH L H' ∧
      walkL (dcK C ek ey own g ifs) (xs.drop (i + 1)) (.dT acc) e2 = some (.ok accF, eF), fun H' z => ⟨m - 1, by omega, z⟩, fun x H' y => ?_⟩
    obtain ⟨W3, E3, S3, f3⟩ := g2 x H' y
    have lk3 : LkH L H' := LkH.keep lk (lw.mono S2.wle) E2 S3.q
    obtain ⟨F3, hD3⟩ := F2.keep E3 S3 hD2 (fun vs z => by cases z)
    refine ⟨W3, _, xs[i], eb.s, E3, f3, hb1, fun σ3 E4 S4 O4 => ⟨wipe_same O4 hgl, ?_⟩⟩
    have hbo := bindT_out hb1
    have E4 : EnvOk A K W3 H' σ3 eb := by
      obtain ⟨es, ed⟩ := eb
      cases hb2
      exact E4
    refine ⟨W3, eb, .ok kb, e4, E4, ht, fun W5 H5 E5 S5 => ?_⟩
    intro bb rb
    obtain rfl : bb = kb := rb
    -- D through a step of the block
    have F4n : ∀ i, ¬ Ow eb.s σ3 i D := fun i w => by
      obtain ⟨⟨t, w1⟩, w2⟩ := w
      rcases hbo.2 i with z | ⟨_, u, z⟩
      · rw [z] at w1
        by_cases c : i ∈ own
        · exact wipeT_in c w1
        · rw [O4.2 i fun z => c (hgl i z)] at w2
          exact F3.n i ⟨⟨t, w1⟩, w2⟩
      · rw [z] at w1
        cases w1
    have F4 : Free W3 H' eb.s σ3 D := ⟨F3.g, F4n, F3.d⟩
    have S3' : Stp q W1 H1 (wipeT e1.s own) (L2.wipe σ own) W3 H' (wipeT e2.s own) := S2.trans (S3.weak fun _ => rfl)
    have fin : ∀ {W6 : Wd} {H6 : Hp} {e6 : Ev}, EnvOk A K W6 H6 σ3 e6 → Stp q W3 H' eb.s σ3 W6 H6 e6.s → Free W6 H6 e6.s σ3 D →
        EnvOk A K W6 H6 (L2.wipe σ own) ⟨wipeT e6.s own, e6.d⟩ ∧ Stp q W1 H1 (wipeT e1.s own) (L2.wipe σ own) W6 H6 (wipeT e6.s own) ∧ Free W6 H6 (wipeT e6.s own) (L2.wipe σ own) D ∧ LkH L H6 := fun {W6 H6 e6} E6 S6 F6 => by
      have hw := wipe_same O4 hgl
      have Ea := E6.wipe own
      rw [hw] at Ea
      refine ⟨Ea, S3'.trans (blk_turn O4 hgl hbo S6), ⟨F6.g, fun i w => ?_, F6.d⟩, LkH.keep lk3 ((lw.mono S2.wle).mono S3.wle) E4 S6.q⟩
      rw [← hw] at w
      exact F6.n i (ow_wipe w).2
    cases bb with
    | false =>
      simp only [Bool.false_eq_true, if_false] at hk ⊢
      simp only [ret, Option.some.injEq, Prod.mk.injEq, Out.ok.injEq] at hk
      obtain ⟨hk1, hk2⟩ := hk
      subst hk1 hk2
      obtain ⟨F5, hD5⟩ := F4.keep E5 S5 hD3 (fun vs z => by cases z)
      have S5' : Stp q W3 H' eb.s σ3 W5 H5 e4.s := S5.weak hqi
      have f5 := (f2.mono A S3.wle).mono A S5.wle
      obtain ⟨z1, z2, z3, z4⟩ := fin E5 S5' F5
      exact ⟨by omega, W5, e4, acc, vs, z1, z2, z3, hD5, f5, z4, hrest⟩
    | true =>
      simp only [if_true] at hk ⊢
      obtain ⟨r5, e5, he, hk⟩ := bnd_okk hk
      obtain ⟨r6, e6, he2, hk⟩ := bnd_okk hk
      obtain ⟨acc2, hput, hk1, hk2⟩ := opt_some hk
      cases hk1
      subst hk2
      simp only [dputT, Option.bind_eq_some_iff] at hput
      obtain ⟨kk, hkey, hput⟩ := hput
      split at hput
      · rename_i hlen
        cases hput
        refine ⟨W5, e4, .ok r5, e5, E5, he, fun W6 H6 E6 S6 v rv => ?_⟩
        refine ⟨W6, e5, .ok r6, e3, E6, he2, fun W8 H8 E8 S8 z rz => ?_⟩
        have S56 : Stp q W3 H' eb.s σ3 W6 H6 e5.s := (S5.weak hqi).trans (S6.weak hqk)
        have S58 : Stp q W3 H' eb.s σ3 W8 H8 e3.s := S56.trans (S8.weak hqy)
        -- the key is a tuple: it stands still
        have fk : Fz A W6 r5.2 v := by
          obtain ⟨o5, t5⟩ := r5
          cases o5 with
          | false => exact rv
          | true =>
            obtain ⟨p, _, ow, _⟩ := (show ∃ p, v = .ref p ∧ Own A W6 H6 t5 p ∧ H5 p = none ∧ NoDr W6 p from rv)
            obtain ⟨_, o, _, r⟩ := ow
            cases t5 <;> simp only [T.tkey, reduceCtorEq] at hkey
            exact r.elim
        obtain ⟨bb, e9, hbb⟩ := tkey_of hkey E8 (.inl (fk.mono A S8.wle))
        obtain ⟨F8, hD8⟩ := F4.keep E8 S58 hD3 (fun vs z => by cases z)
        obtain ⟨W7, E7, S7, f7, l7⟩ := res_fz E8 S58 (fun i a w => E4.owt i a w) (fun p z => S56.dom p z) rz
        have F7 : Free W7 H8 e3.s σ3 D := (F4.keep E7 S7 hD3 (fun vs z => by cases z)).1
        have f8 : FzT A W7 (putT acc kk r6.2) (putK vs kk z) := putTT_fz f7 (((f2.mono A S3.wle).mono A S58.wle).mono A l7)
        refine ⟨vs, kk, bb, e9, hbb, hD8, by rw [← (anyT_fz [] f2).2]; exact hlen, by omega, W7, e3, putT acc kk r6.2, putK vs kk z, ?_⟩
        obtain ⟨z1, z2, z3, z4⟩ := fin E7 S7 F7
        obtain ⟨y1, y2, y3⟩ := free_upd (o := .dT (putK vs kk z)) z3 z1 z2 hD (fun ob xs z => by rw [hD8] at z; cases z) (fun u z => by rw [hD8] at z; cases z; rfl)
        exact ⟨y1, y2, y3, upd_same, f8, fun d u z => by
          obtain ⟨o, g⟩ := (lw.mono S2.wle) d u z
          have g7 := S7.wle.g _ _ (S3.wle.g _ _ g)
          rw [upd_ne (fun w => by rw [w, F7.g] at g7; cases g7)]
          exact z4 d u z, hrest⟩
      · cases hput
  · have hd : xs.drop i = [] := List.drop_eq_nil_of_le (by omega)
    rw [hd] at h
    simp only [walkL, ret, Option.some.injEq, Prod.mk.injEq, Out.ok.injEq] at h
    obtain ⟨h1, h2⟩ := h
    subst h1 h2
    obtain ⟨E9, S9⟩ := blk_end E1 E2 S2
    refine .inl ⟨st (by omega), hp W2 H E9 (S1.trans S9) _ ?_⟩
    exact ⟨D, rfl, ⟨F2.g, _, hD2, vs, rfl, f2⟩, S1.dom D hD, F2.d⟩
end
end PB
end
section
set_option Elab.async false
set_option linter.all false
set_option maxRecDepth 100000
/-! PBD2: a tuple key is put by a comprehension. -/
namespace PB
open PySem PySem.Spec PyProof.Rows L2
theorem d_dictSetT {X : Cx} {pins : List (Addr × Obj)} {σ : L2.St} {H : Hp} {s : Shared} {E : Value → Shared → Prop} {D b : Addr} {kvs : List (List Key × V)} {k : List Key} {v : V} {r : Value} {Q : Unit → Shared → Prop} (hu : X.A.units + 1 < cLine) (I : Inv X pins σ H s) (hD : H D = some (.dT kvs)) (hz : kvs.length < sizeLine)
    (eb : H b = some (.tup (k.map kV))) (rv : RelV v r) (h : ∀ s', Inv X pins σ (upd H D (.dT (putK kvs k v))) s' → Q () s') : wpAny (model X.prog X.w) X.A (dictSet D (.ref b) r) Q E s := by
  obtain ⟨z, hd, xs, rel, dd⟩ := dt_of I.hok hD
  have hx : xs.length ≤ sizeLine := by
    rw [← Paired.length rel]
    exact z
  have hl : (putK kvs k v).length ≤ sizeLine := by
    have := length_putK kvs k v
    omega
  refine wpAny_dictSet_heap (hsz := hx) (show X.A.units < cLine by omega) (L2.key_of I.hok eb) dd fun h' dd' hs => h _ ?_
  obtain ⟨q, es, ep, hq, h2, h3, h4, _, h5⟩ := dd'
  refine d_write I (by rw [hD]; trivial) hs ⟨q, hq⟩ ⟨hl, hd, _, (rel.put k eb rv).keeps fun c ys ec => ?_, q, es, ep, hq, h2, h3, h4, h5⟩
  rw [upd_ne (ne_of ec hD (fun z => nomatch z))]
  exact ec
end PB
end
section
set_option Elab.async false
set_option linter.all false
set_option maxRecDepth 100000
/-! PBD3: a dict comprehension with tuple keys, in the model. -/
namespace PB
open PySem PySem.Spec PyProof.Rows L2
section
variable {X : Cx}
/-- the pairs of a block's names: what is asked of its parts -/
abbrev InBlk (X : Cx) (sc : Scope) (P : Cx → Prop) : Prop := ∀ (s : Shared) (H : Hp) (C : Addr) (cl : List (Str × Addr)) (fp : List Addr), P (X.blk s H sc (compEnvC sc cl C X.env) fp)
/-- {(..): v for .. in .. if ..} -/
def tDcT (wi : TI) (g : TG) (tt : TT) (ka va : TE) (own : List Nat) : TE := fun σ H Q =>
  wi σ H fun J H1 => ∀ D, H1 D = none →
  ∃ W : Nat → Nat → Hp → Prop, (∃ m, W 0 m (upd H1 D (.dT []))) ∧ ∀ i m H, W i m H → (J.stop i H ∧ Q (.ref D) H) ∨ (J.go i H ∧
    ∃ Nx : Hp → Prop, (∀ H', Nx H' → ∃ m', m' < m ∧ W (i + 1) m' H') ∧ ∀ x H', J.yld i H x H' → g x (L2.wipe σ own) H' fun σ2 H2 =>
      L2.wipe σ2 own = L2.wipe σ own ∧ tt σ2 H2 fun b H3 => if b = true then ka σ2 H3 fun y H4 => va σ2 H4 fun z H5 =>
        ∃ kvs kk bb, y = .ref bb ∧ H5 bb = some (.tup (kk.map kV)) ∧ H5 D = some (.dT kvs) ∧ kvs.length < sizeLine ∧ Nx (upd H5 D (.dT (putK kvs kk z)))
      else Nx H3)
theorem pe_dcT {kx vx tg iter : Expr} {tests : List Expr} {sc : Scope} {own : List (Str × Nat)} {pos : Pos} {wi : TI} {g : TG} {tt : TT} {ka va : TE}
    (hu : X.A.units + 1 < cLine) (hc : X.calm = true) (hN : X.N.Nodup) (hi : PI X tg iter wi) (ok : BlkOk X.N X.env.scope sc own)
    (hg : InBlk X sc fun B => PG B tg g) (ht : InBlk X sc fun B => PTs B tests tt) (hk : InBlk X sc fun B => PE B kx ka) (hv : InBlk X sc fun B => PE B vx va)
    (hs : ∀ x, foldedSetIterable iter X.env x = pure x) : PE X (.DictComp kx vx [⟨tg, iter, tests, 0⟩] sc pos) (tDcT wi g tt ka va (own.map (·.2))) := by
  refine ⟨fun pins s σ H Q I h => ?_⟩
  rw [arm_eval_DictComp]
  have frees : ∀ y ∈ sc.names, y.2 = .free → ∃ c, X.env.cells.lookup y.1 = some c := fun y hy e =>
    (ok.free y hy e).elim (fun k => I.ok.has _ (.inl k)) (fun k => I.ok.has _ (.inr k))
  refine wpAny_comprehension_free (use := none) rfl hs (closure_ok frees) ok.kind (fun y hy e => by rw [ok.uniq y hy, e])
    (thn (hi.run pins s σ H _ I h) fun xv s1 hx => thn hx fun itv s2 h2 => ?_)
  obtain ⟨it, fp, tn, J, H2, e, I2, T, st2, f2, q⟩ := h2
  subst e
  refine wpAny_newObj_type (newEnv_comp ?_)
  generalize hD : s2.heap.objs.size = D
  obtain ⟨W, ⟨m0, w0⟩, turn⟩ := q D (I2.hok.fresh (Nat.le_of_eq hD))
  -- the empty dict is laid
  generalize hs3 : ({ s2 with heap := s2.heap.push { cls := .type "dict", data := .dict #[] } } : Shared) = s3
  have I3 : Inv X pins σ (upd H2 D (.dT [])) s3 := by
    subst hs3
    exact I2.laid (t' := s2.toks) (fun b o e => Heap.get?_push_of_some _ e) (Nat.le_of_eq hD) (by rw [← hD]; exact dt_empty s2.heap I2.big)
  have h3 : s3.heap = s2.heap.push { cls := .type "dict", data := .dict #[] } := by subst hs3; rfl
  have f3 : ∀ b ∈ fp, FpOk X pins (upd H2 D (.dT [])) b ∧ b < s3.heap.objs.size := fun b hb => by
    obtain ⟨o, eo, _⟩ := T.obj _ _ st2 b hb
    have hlt := Heap.lt_size eo
    refine ⟨⟨?_, (f2 b hb).2⟩, by rw [h3, Heap.size_push]; exact Nat.lt_succ_of_lt hlt⟩
    rw [upd_ne (by rw [← hD]; exact Nat.ne_of_lt hlt)]
    exact (f2 b hb).1
  have st3 : tn 0 s3.heap := T.keep _ _ _ st2 fun b _ o e => by rw [h3]; exact Heap.get?_push_of_some _ e
  have I4 := block_start I3 ok hN f3
  generalize hcl : cellsFrom (s3.heap.objs.size + 1) sc.names (cloFrom X.env.cells sc.names []) = cl at I4
  have pg := hg s3 (upd H2 D (.dT [])) s3.heap.objs.size cl fp
  have pt := ht s3 (upd H2 D (.dT [])) s3.heap.objs.size cl fp
  have pk := hk s3 (upd H2 D (.dT [])) s3.heap.objs.size cl fp
  have pv := hv s3 (upd H2 D (.dT [])) s3.heap.objs.size cl fp
  show codeAny _ _ (.compStart (.DictComp kx vx [⟨tg, iter, tests, 0⟩] sc pos) 0 (.ref it) (.ref D) (compEnvC sc cl s3.heap.objs.size X.env))
    (compPost (model X.prog X.w) X.A X.xe none _ (.ref D) s3.heap.objs.size) { s3 with heap := pushCells (s3.heap.push { cls := .type "dict", data := .dict #[] }) sc.names }
  have nfp : ∀ b ∈ fp, (upd H2 D (.dT [])) b = none := fun b hb => (f3 b hb).1.1
  generalize hce : compEnvC sc cl s3.heap.objs.size X.env = ce at I4 pg pt pk pv ⊢
  have cL : ce.locals = s3.heap.objs.size := by subst hce; rfl
  generalize hH3 : upd H2 D (.dT []) = H3 at I3 I4 pg pt pk pv w0 nfp f3
  generalize hs4 : ({ s3 with heap := pushCells (s3.heap.push { cls := .type "dict", data := .dict #[] }) sc.names } : Shared) = s4 at I4 ⊢
  have st4 : tn 0 s4.heap := T.keep _ _ _ st3 fun b _ o e => by
    rw [← hs4]
    exact pushCells_keeps _ _ _ _ (Heap.get?_push_of_some _ e)
  generalize hB : X.blk s3 H3 sc ce fp = B at I4 pg pt pk pv
  have eP : B.prog = X.prog := by subst hB; rfl
  have stat : ∀ {σ' : L2.St} {H' : Hp} {s' : Shared}, Inv B [] σ' H' s' → (∀ b ∈ fp, H' b = none) → ∀ b ∈ fp, FpOk B [] H' b := by
    subst hB
    exact fun {σ' H' s'} I' hn b hb => ⟨hn b hb, (I'.ok.exf b hb).1, I'.ok.exfs b hb, .inl hb, fun x c e => (I'.ok.exf b hb).2 x c e, fun p hp => absurd (show p ∈ ([] : List (Addr × Obj)) ++ [] from hp) (by simp)⟩
  subst hB
  have loop : codeAny (model X.prog X.w) X.A (.compLoop (.DictComp kx vx [⟨tg, iter, tests, 0⟩] sc pos) 0 (.ref it) (.ref D) ce) (compPost (model X.prog X.w) X.A X.xe none (fun v s' => ∃ x H', Inv X pins σ H' s' ∧ RelV x v ∧ Q x H') (.ref D) s3.heap.objs.size) s4 := by
    refine compLoop_anyD (fun n s' => ∃ i H', Inv (X.blk s3 H3 sc ce fp) [] (L2.wipe σ (own.map (·.2))) H' s' ∧ tn i s'.heap ∧ (∀ b ∈ fp, H' b = none) ∧ W i n H') ?_ m0 ⟨0, H3, I4, st4, nfp, w0⟩
    rintro n s5 ⟨i, H5, I5, st5, n5, w5⟩
    rcases turn i n H5 w5 with ⟨stop, qq⟩ | ⟨go, Nx, hNx, step⟩
    · refine thnF (T.done (X.blk s3 H3 sc ce fp) rfl rfl rfl hc i [] s5 _ H5 (fun _ _ => False) I5 (stat I5 n5) st5 stop) fun r s6 ⟨hr, I6⟩ => ?_
      subst hr
      have I7 : Inv X pins σ H5 s6 := I3.call' (ch := fp) I6.os I6.base I6.hok I6.bare fun b hb =>
        ⟨(f3 b hb).1.2.2.2.1, (f3 b hb).1.2.1, (f3 b hb).1.2.2.2.2.1, (f3 b hb).1.2.2.2.2.2⟩
      have nC : H5 s3.heap.objs.size = none := by
        have z : H5 ce.locals = none := I6.free
        rwa [cL] at z
      obtain ⟨m, hn, _⟩ := I6.loc
      have hn : s6.heap.Ns ce.locals m := hn
      rw [cL] at hn
      obtain ⟨f0, f1, f2', f3', f4, f5⟩ := I3.fpOk (Nat.le_refl _) nC
      exact ⟨m, hn, fun h'' sb => ⟨.ref D, H5, I7.turned (t' := s6.toks) (fun b o hb e => (sb.2 b hb).trans e) f0 f1 f3' f4 f5, rfl, qq⟩⟩
    · refine thnF (T.item (X.blk s3 H3 sc ce fp) rfl rfl rfl hc i [] s5 _ H5 (fun _ _ => False) I5 (stat I5 n5) st5 go) fun r s6 ⟨u, hr, h6⟩ => ?_
      subst hr
      refine thnF h6 fun _ s7 ⟨x, H7, I7, r7, y7, st7, n7⟩ => ?_
      have I7' := I7.pinned (stat I7 n7) (T.obj _ _ st7)
      refine thnF (pg.run _ s7 _ H7 x u _ I7' r7 (step x H7 y7)) fun _ s8 ⟨σ8, H8, I8, hw8, q8⟩ => ?_
      refine thnF (pt.run _ s8 σ8 H8 _ I8 q8) fun b s9 ⟨H9, I9, q9⟩ => ?_
      have fin : ∀ {s' : Shared} {H' : Hp}, Inv (X.blk s3 H3 sc ce fp) ([] ++ pinsAt fp s7.heap) σ8 H' s' → Nx H' →
          ∃ m, m < n ∧ ∃ i H', Inv (X.blk s3 H3 sc ce fp) [] (L2.wipe σ (own.map (·.2))) H' s' ∧ tn i s'.heap ∧ (∀ b ∈ fp, H' b = none) ∧ W i m H' := by
        intro s' H' I' nx
        obtain ⟨m', hm, w'⟩ := hNx H' nx
        have pin' : ∀ b ∈ fp, ∀ o, s7.heap.get? b = some o → s'.heap.get? b = some o ∧ H' b = none := fun b hb o e => by
          have z := I'.pin (b, o) (List.mem_append_right _ (List.mem_append_right _ (mem_pinsAt hb e)))
          exact ⟨z.1, z.2.1⟩
        have hl : (L2.wipe σ (own.map (·.2))).length = σ8.length := by rw [← hw8, wipe_length]
        refine ⟨m', hm, i + 1, H', (I'.unpinned (pins := [])).weak hl (fun j v e => ?_), T.keep _ _ _ st7 fun b hb o e => (pin' b hb o e).1, fun b hb => ?_, w'⟩
        · rw [← hw8] at e
          exact (wipe_some e).1
        · obtain ⟨o, e, _⟩ := T.obj _ _ st7 b hb
          exact (pin' b hb o e).2
      cases b with
      | false =>
        simp only [Bool.false_eq_true, if_false] at q9 ⊢
        exact fin I9 q9
      | true =>
        simp only [if_true] at q9 ⊢
        refine thnF (pk.run _ s9 σ8 H9 _ I9 q9) fun z s10 ⟨yk, H10, I10, r10, q10⟩ => ?_
        refine thnF (pv.run _ s10 σ8 H10 _ I10 q10) fun z2 s11 ⟨yv, H11, I11, r11, kvs, kk, bb, ek, hbb, hD11, hz11, nx⟩ => ?_
        subst ek
        obtain rfl : z = Value.ref bb := r10
        exact d_dictSetT (X := X.blk s3 H3 sc ce fp) hu I11 hD11 hz11 hbb r11 fun s12 I12 => fin I12 nx
  exact codeAny_compStart_dict loop (T.self X.A 0 _ _ _ st4 loop)
end
end PB
end
section
set_option Elab.async false
set_option linter.all false
set_option maxRecDepth 100000
/-! PBD4: a dict comprehension with tuple keys, translated. -/
namespace PB
open PySem PySem.Spec PyProof.Rows L2
section
variable {A : Cad} {K : PySem.W.Frag} {XE : XK} {C : Orc} {X : Cx} {pos p : Pos} {a b c d : Expr} {ia ib ic id : Ex}
abbrev rdDc (A : Cad) (K : PySem.W.Frag) (C : Orc) (wi : TI) (ek ey : Ex) (own : List Nat) (g : Tg) (ifs : List Ex) : TE := tDcT wi (gT A K g) (tT A K noX (Ex.quiets ifs) (tsts C ifs)) (tE A K noX ek.quiet (ev C ek)) (tE A K noX ey.quiet (ev C ey)) own
theorem dcomp_q {bb : Bool} {ek ey : Ex} {own : List Nat} {g : Tg} {it : It} {ifs : List Ex} (z : (Ex.dcomp bb ek ey own g it ifs).quiet = true) : ek.quiet = true ∧ ey.quiet = true ∧ it.quiet = true ∧ Ex.quiets ifs = true := by
  simp only [Ex.quiet, Bool.and_eq_true] at z
  exact ⟨z.1.1.1, z.1.1.2, z.1.2, z.2⟩
theorem dc_plain {ek ey : Ex} {own : List Nat} {g : Tg} {it : It} {ifs : List Ex} {W : Wd} {H : Hp} {σ : L2.St} {e e' : Ev} {out : Out R} {Q : VK} (E : EnvOk A K W H σ e) (hm : itD it (itL C it) (dcM C true ek ey own g ifs) e = some (out, e')) (hd : dictAt it e.s = none)
    (hp : Post A K XE (Ex.dcomp true ek ey own g it ifs).quiet (rE A) W H e.s σ out e' Q) (hgl : ∀ j ∈ g.slots, j ∈ own) : rdDc A K C (tM A K XE it.quiet (rI A K) (itL C it)) ek ey own g ifs σ H Q := by
  unfold itD at hm
  rw [hd] at hm
  refine step (Rl := rI A K) E (.refl _ W H e.s σ) hm hp (fun z => (dcomp_q z).2.2.1) fun xs e1 W1 H1 J hm E1 S1 s1 ok => ?_
  intro D hD
  exact dcT_core (L := none) ok (fun d u z => by cases z) (fun d u z => by cases z) E1 S1 hm hp hgl (fun z => (dcomp_q z).1) (fun z => (dcomp_q z).2.1) (fun z => (dcomp_q z).2.2.2) hD
theorem dc_dict {ek ey : Ex} {own : List Nat} {g : Tg} {it : It} {ifs : List Ex} {W : Wd} {H : Hp} {σ : L2.St} {e e' : Ev} {out : Out R} {Q : VK} {i : Nat} {xs : List T} (E : EnvOk A K W H σ e) (hm : itD it (itL C it) (dcM C true ek ey own g ifs) e = some (out, e')) (hd : dictAt it e.s = some (i, xs))
    (hp : Post A K XE (Ex.dcomp true ek ey own g it ifs).quiet (rE A) W H e.s σ out e' Q) (hgl : ∀ j ∈ g.slots, j ∈ own) :
    it = .seq (.var i) ∧ ((∃ q u, H q = some u ∧ Mut (some u) ∧ ∀ od, rdDc A K C (iKeys (tVar i)) ek ey own g ifs σ (upd H q (.frz od u)) fun v H' => H' q = some (.frz od u) ∧ Q v (upd H' q u)) ∨ rdDc A K C (iKeys (tVar i)) ek ey own g ifs σ H Q) := by
  unfold itD at hm
  rw [hd] at hm
  obtain ⟨h1, o, x, h2, h3, h4⟩ := dictAt_some hd
  refine ⟨h1, ?_⟩
  obtain ⟨v, hv, _⟩ := E.sl i _ h2
  obtain ⟨W1, E1, S1, f1⟩ := frz1_ok (q := (Ex.dcomp true ek ey own g it ifs).quiet) E (.refl _ W H e.s σ) h2 hv
  obtain ⟨q, u, e1, g1, du, mu, hq, wk⟩ := dict_walk E1 f1 h3 h4
  subst e1
  have hm : dcM C true ek ey own g ifs xs { e with s := frz1 i e.s } = some (out, e') := hm
  rcases hq with hq | ⟨od, hq⟩
  · refine .inl ⟨q, u, hq, mu, fun od => ?_⟩
    obtain ⟨J, ok, kk⟩ := wk od
    have E2 := lock_ok (od := od) E1 g1 du hq
    refine kk i σ _ _ hv upd_same fun D hD => ?_
    refine dcT_core ok (fun d u' z => by cases z; exact ⟨u, g1⟩) (fun d u' z => by cases z; exact upd_same) E2 (.refl (Ex.dcomp true ek ey own g it ifs).quiet W1 _ _ σ) hm ?_ hgl (fun z => (dcomp_q z).1) (fun z => (dcomp_q z).2.1) (fun z => (dcomp_q z).2.2.2) hD (XE := XE) (Q := fun v H' => H' q = some (.frz od u) ∧ Q v (upd H' q u))
    intro W' H' E' S'
    have hk : H' q = some (.frz od u) := S'.keep q _ upd_same (.inr fun j w => frozen_not_own E2 g1 w) (G_nodr E2 g1)
    have z := hp W' (upd H' q u) (unlock_ok E' (S'.wle.g _ _ g1) hk du) (S1.trans (unlock_stp S' hq))
    obtain ⟨r, ho, _⟩ := noExc_some (show noExc _ _ = some (out, e') from hm)
    subst ho
    exact fun v rv => ⟨hk, z v (unlock_res (e' := e') (σ := σ) (W := W) (S'.wle.g _ _ g1) rv)⟩
  · refine .inr ?_
    obtain ⟨J, ok, kk⟩ := wk od
    refine kk i σ _ _ hv hq fun D hD => ?_
    exact dcT_core ok (fun d u' z => by cases z; exact ⟨u, g1⟩) (fun d u' z => by cases z; exact hq) E1 S1 hm hp hgl (fun z => (dcomp_q z).1) (fun z => (dcomp_q z).2.1) (fun z => (dcomp_q z).2.2.2) hD
theorem b_dcomp {kx vx tg iter : Expr} {ifs : List Expr} {scope : Scope} {own : List (Str × Nat)} {ek ey : Ex} {g : Tg} {it : It} {jfs : List Ex} (hu : X.A.units + 1 < cLine) (hc : X.calm = true) (hN : X.N.Nodup) (hi : ItX A K XE C X tg iter it) (ok : BlkOk X.N X.env.scope scope own) (hl : LcP A K C X scope tg ifs g jfs)
    (hk : EltP A K C X scope kx ek) (hv : EltP A K C X scope vx ey) (hs : notSet iter = true) (hgl : ∀ j ∈ g.slots, j ∈ own.map (·.2)) : Pe A K XE C X (.DictComp kx vx [⟨tg, iter, ifs, 0⟩] scope pos) (.dcomp true ek ey (own.map (·.2)) g it jfs) := by
  refine ⟨fun pins s σ H Q I hh => ?_⟩
  obtain ⟨W, e, out, e', E, hm, hp⟩ := hh
  rw [ev_dcomp] at hm
  cases hd : dictAt it e.s with
  | none => exact (pe_dcT hu hc hN hi.pi ok hl.hg hl.ht hk hv (fold_ok hs _)).run pins s σ H Q I (dc_plain E hm hd hp hgl)
  | some z =>
    obtain ⟨i, xs⟩ := z
    obtain ⟨h1, h2⟩ := dc_dict E hm hd hp hgl
    have hp2 := pe_dcT (pos := pos) hu hc hN (pi_keys (hi.var i h1)) ok hl.hg hl.ht hk hv (fold_ok hs _)
    rcases h2 with ⟨q, u, hq, mu, h2⟩ | h2
    · exact (pe_lock hp2).run pins s σ H Q I ⟨q, u, hq, mu, h2⟩
    · exact hp2.run pins s σ H Q I h2
end
end PB
end
section
set_option Elab.async false
set_option linter.all false
set_option maxRecDepth 100000
/-! PBD5: a dict display of one pair. -/
namespace PB
open PySem PySem.Spec PyProof.Rows L2
section
variable {A : Cad} {K : PySem.W.Frag} {XE : XK} {C : Orc} {X : Cx} {pos : Pos}
theorem b_d1 {k v : Expr} {ik iv : Ex} (hk : Pr A K XE C X k ik) (hv : Pe A K XE C X v iv) : Pe A K XE C X (.Dict [some k] [v] pos) (.d1 ik iv) := by
  refine PE.mono (pe_disp (pps_cons hk hv pps_nil) rfl rfl (by simp) (by simp)) fun σ H Q hh => ?_
  obtain ⟨W, e, out, e', E, hm, hp⟩ := hh
  simp only [ev] at hm
  intro p hn
  have hq : (Ex.d1 ik iv).quiet = true → ik.quiet = true ∧ iv.quiet = true := fun z => by simpa [Ex.quiet] using z
  obtain ⟨E1, S1, R1⟩ := new_own (q := (Ex.d1 ik iv).quiet) (o := .dK []) (t := .dK []) E (.refl _ W H e.s σ) hn ⟨[], rfl, by simp only [FzK]⟩
  have F1 : Free W (upd H p (.dK [])) e.s σ p := ⟨E.noG hn, fun i w => E.noOw hn i w, E.noDr hn⟩
  refine step E1 S1 hm hp (fun z => (hq z).1) fun x e1 W1 H1 v1 hm E2 S2 s1 r1 => ?_
  obtain ⟨F2, hD2⟩ := F1.keep E2 s1 upd_same (fun vs z => by cases z)
  refine step E2 S2 hm hp (fun z => (hq z).2) fun y e2 W2 H2 v2 hm E3 S3 s2 r2 => ?_
  obtain ⟨F3, hD3⟩ := F2.keep E3 s2 hD2 (fun vs z => by cases z)
  obtain ⟨r, h1, h2, h3⟩ := opt_some hm
  subst h2 h3
  simp only [Option.map_eq_some_iff] at h1
  obtain ⟨q, h4, h5⟩ := h1
  subst h5
  have ek : v1 = kV q := key_of h4 r1.rv
  subst ek
  obtain ⟨W3, E4, s3, f4, _⟩ := res_fz E3 s2 (fun i a w => E2.owt i a w) (fun a z => z) r2
  obtain ⟨F4, hD4⟩ := F2.keep E4 s3 hD2 (fun vs z => by cases z)
  have S4 := S2.trans (s3.weak fun z => (hq z).2)
  obtain ⟨E5, S5, F5⟩ := free_upd (o := .dK [(q, v2)]) F4 E4 S4 hn (fun ob xs z => by rw [hD4] at z; cases z) (fun u z => by rw [hD4] at z; cases z; rfl)
  refine ⟨hD4, [(q, v2)], rfl, by simp, ?_⟩
  refine hp W3 _ E5 S5 _ ⟨p, rfl, ⟨F5.g, _, upd_same, ⟨_, rfl, ?_⟩⟩, hn, F5.d⟩
  simp only [FzK, true_and, and_true]
  exact f4
end
end PB
end
section
set_option Elab.async false
set_option linter.all false
set_option maxRecDepth 100000
set_option maxHeartbeats 4000000
/-! PB31: every translated expression keeps its rules. -/
namespace PB
open PySem PySem.Spec PyProof.Rows L2
section
variable {A : Cad} {XE : XK} {C : Orc} {lv : Nat} {τ : Tab} {N : List Str} {sc : Scope} {X : Cx}
theorem x_all (n : Nat) (ih : ∀ e : Expr, sizeOf e < n → ∀ {sc : Scope} {ir : Ex}, trE τ N sc e = some ir → ∀ {XE : XK} {X : Cx}, XOk A XE C lv τ N sc X → Ok A XE C X e ir) :
    ∀ {es : List Expr}, sizeOf es < n → ∀ {sc : Scope} {is : List Ex}, trEs τ N sc es = some is → ∀ {XE : XK} {X : Cx}, XOk A XE C lv τ N sc X → Oks A XE C X es is
  | [], _, sc, is, h, XE, X, o => by
    simp only [trEs, Option.some.injEq] at h
    subst h
    trivial
  | e :: es, hz, sc, is, h, XE, X, o => by
    simp only [trEs] at h
    simp only [List.cons.sizeOf_spec] at hz
    split at h
    · rename_i i is' h1 h2
      cases h
      exact ⟨ih e (by omega) h1 o, x_all n ih (by omega) h2 o⟩
    · cases h
theorem oks_len : ∀ {es : List Expr} {is : List Ex}, Oks A XE C X es is → es.length = is.length
  | [], [], _ => rfl
  | _ :: es, _ :: is, h => by simp only [List.length_cons, oks_len h.2]
  | [], _ :: _, h => h.elim
  | _ :: _, [], h => h.elim
theorem not_set_mk {o : CmpOp} {b : Expr} (h : notSet b = true) : behindInMarks o b = false := by
  cases b <;> first | rfl | cases h
/-! what is walked; targets; blocks -/
theorem isN_eq {sc : Scope} {f : Str} {x : String} (h : isN sc f x = true) : isGl sc f = true ∧ f = Str.ofString x := by
  unfold isN at h
  simp only [Bool.and_eq_true, decide_eq_true_eq] at h
  exact h
theorem pair_tg {tg : Expr} (h : (match tg with | .Tuple _ _ _ => true | _ => false) = true) : ∃ es k p, tg = .Tuple es k p := by
  cases tg <;> first | exact ⟨_, _, _, rfl⟩ | cases h
theorem x_seq {iter : Expr} {i : Ex} {tg : Expr} (he : Ok A XE C X iter i) : ItX A X.K XE C X tg iter (.seq i) := ⟨i_seq rfl he.pe, fun j z => he.va j (by cases z; rfl)⟩
theorem not_seq {it : It} {X : Cx} {iter : Expr} (h : ∀ e, it ≠ .seq e) : ∀ i, it = .seq (.var i) → PE X iter (tVar i) := fun i z => (h _ z).elim
theorem x_iter {n : Nat} (ih : ∀ e : Expr, sizeOf e < n → ∀ {sc : Scope} {ir : Ex}, trE τ N sc e = some ir → ∀ {XE : XK} {X : Cx}, XOk A XE C lv τ N sc X → Ok A XE C X e ir) {iter tg : Expr} {it : It} (hz : sizeOf iter < n) (h : trI τ N sc iter (trE τ N sc iter) = some it) (ht : okTg tg it = true)
    (o : XOk A XE C lv τ N sc X) : ItX A X.K XE C X tg iter it := by
  have seq : ∀ {e : Option Ex}, trE τ N sc iter = e → e.map It.seq = some it → ItX A X.K XE C X tg iter it := fun {e} he hm => by
    simp only [Option.map_eq_some_iff] at hm
    obtain ⟨i, h1, h2⟩ := hm
    subst h2 h1
    exact x_seq (ih iter hz he o)
  have bi : ∀ x ∈ [Str.ofString "isinstance", Str.ofString "range", Str.ofString "enumerate", Str.ofString "zip", Str.ofString "list"], X.mg x = none := o.tab.bi
  unfold trI at h
  split at h
  · rename_i f pf a pos
    unfold it1 at h
    split at h
    · rename_i hf
      obtain ⟨h1, h2⟩ := isN_eq hf
      simp only [Option.map_eq_some_iff] at h
      obtain ⟨ia, h3, h4⟩ := h
      subst h4
      have ha := ih a (by simp at hz; omega) h3 o
      rw [h2] at h1
      exact ⟨i_rng h2 (bn_of o h1 (bi _ (by simp))) ha.ns ha.pr, not_seq fun e z => by cases z⟩
    · split at h
      · rename_i hf
        obtain ⟨h1, h2⟩ := isN_eq hf
        simp only [Option.map_eq_some_iff] at h
        obtain ⟨ia, h3, h4⟩ := h
        subst h4
        have ha := ih a (by simp at hz; omega) h3 o
        obtain ⟨es, k, p, e1⟩ := pair_tg ht
        subst e1
        rw [h2] at h1
        exact ⟨i_enum h2 rfl (bn_of o h1 (bi _ (by simp))) ha.ns ha.pe, not_seq fun e z => by cases z⟩
      · exact seq rfl h
  · rename_i f pf a b pos
    unfold it2 at h
    split at h
    · rename_i hf
      obtain ⟨h1, h2⟩ := isN_eq hf
      split at h
      · rename_i ia ib h3 h4
        cases h
        have ha := ih a (by simp at hz; omega) h3 o
        have hb := ih b (by simp at hz; omega) h4 o
        rw [h2] at h1
        exact ⟨i_rng2 h2 (bn_of o h1 (bi _ (by simp))) ha.ns hb.ns ha.pr hb.pr, not_seq fun e z => by cases z⟩
      · cases h
    · split at h
      · rename_i hf
        obtain ⟨h1, h2⟩ := isN_eq hf
        split at h
        · rename_i ia ib h3 h4
          cases h
          have ha := ih a (by simp at hz; omega) h3 o
          have hb := ih b (by simp at hz; omega) h4 o
          obtain ⟨es, k, p, e1⟩ := pair_tg ht
          subst e1
          rw [h2] at h1
          exact ⟨i_zip h2 rfl (bn_of o h1 (bi _ (by simp))) ha.ns hb.ns ha.pe hb.pe, not_seq fun e z => by cases z⟩
        · cases h
      · exact seq rfl h
  · exact seq rfl h
/-- a target's rules -/
theorem x_tg {cs : Scope} (n : Nat) : ∀ tg : Expr, sizeOf tg < n → ∀ {g : Tg}, trTg N sc tg = some g → ((locTg cs sc tg = true ∧ ∀ x, cs.names.lookup x = some .cell → X.fn x = true) ∨ ∀ x, X.fn x = true) → X.calm = true → X.N = N → N.Nodup → X.env.scope = sc → noStar tg = true ∧ Pg A X.K X tg g := by
  induction n with
  | zero => intro e h; omega
  | succ n ih =>
    intro tg hz g h hf hc hN nd hs
    unfold trTg at h
    split at h
    · rename_i x p
      refine ⟨rfl, ?_⟩
      split at h
      · rename_i hl
        simp only [Option.map_eq_some_iff] at h
        obtain ⟨i, h1, h2⟩ := h
        subst h2
        refine g_nm ⟨by rw [hN]; exact nd, by rw [hN]; exact findIdx_at h1, .inl (by rw [hs]; exact hl), .inr (by rw [hs]; exact hl)⟩
      · rename_i hl
        simp only [Option.map_eq_some_iff] at h
        obtain ⟨i, h1, h2⟩ := h
        subst h2
        refine g_nm ⟨by rw [hN]; exact nd, by rw [hN]; exact findIdx_at h1, .inr (by rw [hs]; exact hl), ?_⟩
        rcases hf with z | z
        · obtain ⟨z, zc⟩ := z
          simp only [locTg, hl, Bool.or_eq_true, Bool.and_eq_true, beq_iff_eq, Option.some.injEq, reduceCtorEq, false_or, true_and] at z
          exact .inl (zc x z)
        · exact .inl (z x)
      · cases h
    · split at h
      · rename_i a b k p _ _ g1 g2 h1 h2
        cases h
        have hf2 : ((locTg cs sc a = true ∧ locTg cs sc b = true) ∧ ∀ x, cs.names.lookup x = some .cell → X.fn x = true) ∨ ∀ x, X.fn x = true := hf.imp (fun z => ⟨by simpa [locTg, locTgs] using z.1, z.2⟩) id
        obtain ⟨a1, a2⟩ := ih a (by simp at hz; omega) h1 (hf2.imp (fun z => ⟨z.1.1, z.2⟩) id) hc hN nd hs
        obtain ⟨b1, b2⟩ := ih b (by simp at hz; omega) h2 (hf2.imp (fun z => ⟨z.1.2, z.2⟩) id) hc hN nd hs
        exact ⟨rfl, g_tp hc rfl ⟨⟨a1, a2⟩, ⟨b1, b2⟩, trivial⟩⟩
      · cases h
    · split at h
      · rename_i a b c k p _ _ _ g1 g2 g3 h1 h2 h3
        cases h
        have hf2 : ((locTg cs sc a = true ∧ locTg cs sc b = true ∧ locTg cs sc c = true) ∧ ∀ x, cs.names.lookup x = some .cell → X.fn x = true) ∨ ∀ x, X.fn x = true := hf.imp (fun z => ⟨by simpa [locTg, locTgs] using z.1, z.2⟩) id
        obtain ⟨a1, a2⟩ := ih a (by simp at hz; omega) h1 (hf2.imp (fun z => ⟨z.1.1, z.2⟩) id) hc hN nd hs
        obtain ⟨b1, b2⟩ := ih b (by simp at hz; omega) h2 (hf2.imp (fun z => ⟨z.1.2.1, z.2⟩) id) hc hN nd hs
        obtain ⟨c1, c2⟩ := ih c (by simp at hz; omega) h3 (hf2.imp (fun z => ⟨z.1.2.2, z.2⟩) id) hc hN nd hs
        exact ⟨rfl, g_tp hc rfl ⟨⟨a1, a2⟩, ⟨b1, b2⟩, ⟨c1, c2⟩, trivial⟩⟩
      · cases h
    · split at h
      · rename_i a b c d k p _ _ _ _ g1 g2 g3 g4 h1 h2 h3 h4
        cases h
        have hf2 : ((locTg cs sc a = true ∧ locTg cs sc b = true ∧ locTg cs sc c = true ∧ locTg cs sc d = true) ∧ ∀ x, cs.names.lookup x = some .cell → X.fn x = true) ∨ ∀ x, X.fn x = true := hf.imp (fun z => ⟨by simpa [locTg, locTgs] using z.1, z.2⟩) id
        obtain ⟨a1, a2⟩ := ih a (by simp at hz; omega) h1 (hf2.imp (fun z => ⟨z.1.1, z.2⟩) id) hc hN nd hs
        obtain ⟨b1, b2⟩ := ih b (by simp at hz; omega) h2 (hf2.imp (fun z => ⟨z.1.2.1, z.2⟩) id) hc hN nd hs
        obtain ⟨c1, c2⟩ := ih c (by simp at hz; omega) h3 (hf2.imp (fun z => ⟨z.1.2.2.1, z.2⟩) id) hc hN nd hs
        obtain ⟨d1, d2⟩ := ih d (by simp at hz; omega) h4 (hf2.imp (fun z => ⟨z.1.2.2.2, z.2⟩) id) hc hN nd hs
        exact ⟨rfl, g_tp hc rfl ⟨⟨a1, a2⟩, ⟨b1, b2⟩, ⟨c1, c2⟩, ⟨d1, d2⟩, trivial⟩⟩
      · cases h
    · cases h
theorem XOk.blk (o : XOk A XE C lv τ N sc X) {cs : Scope} (hk : cs.kind = .function) (hL : okLam sc = true) (s : Shared) (H : Hp) (Cc : Addr) (cl : List (Str × Addr)) (fp : List Addr) : XOk A noX C lv τ N (relS cs sc) (X.blk s H cs (compEnvC cs cl Cc X.env) fp) where
  calm := o.calm
  nm := o.nm
  se := by rw [← o.se]; rfl
  tk := takes_nil
  nd := o.nd
  kind := hk
  un := o.un
  rm := o.rm
  lam := fun _ => (o.lam hL).imp id fun ⟨a, c, P, h1, h2, h3, h4⟩ => ⟨a, c, P, h1, ⟨h2.code, h2.bm, h2.gP⟩, h3, h4⟩
  tab := ⟨o.tab.O, o.tab.p1, o.tab.p2, o.tab.ty, o.tab.bi, fun x k n h => ⟨(o.tab.fn x k n h).1, (o.tab.fn x k n h).2.imp (fun ⟨a, b, c, F⟩ => ⟨a, b, c, ⟨F.ok, F.mg, F.kp, F.bd⟩⟩) fun ⟨a, b, c, F⟩ => ⟨a, b, c, ⟨F.ok, F.mkc, F.mg, F.bd, F.cl, F.own⟩⟩⟩,
    fun m c k n h => let ⟨a, b, d, F⟩ := o.tab.mt m c k n h; ⟨a, b, d, ⟨F.ok, F.cl, F.mt, F.bd⟩⟩, o.tab.co, o.tab.cl, o.tab.fl, fun x t h => let ⟨a1, a2, g, pg, bg, sg, d1, d2, d3, d4, d5, d6, d7, a3, a4, a5, b1, b2, b3, b4, b5, b6, b7, b8, b9, c0⟩ := o.tab.td x t h; ⟨a1, a2, g, pg, bg, sg, d1, d2, d3, d4, d5, d6, d7, a3, a4, a5, b1, b2, b3, b4, b5, b6, b7, b8, b9, fun h z => let w := c0 h z; ⟨w.gl, w.mg, w.db, w.xf, w.no⟩⟩, fun x fs h => ⟨(o.tab.xc x fs h).1, let ⟨f, a, b, c, e, F⟩ := (o.tab.xc x fs h).2; ⟨f, a, b, c, e, ⟨F.ok, F.oc, F.ini, F.ty, F.no, F.bd, F.mg⟩⟩⟩⟩
theorem XOk.lamx (o : XOk A XE C lv τ N sc X) {ls : Scope} (hL : LamX.lamSB sc ls = true) {E : XK} {A' : Around} {outer : List Env} {s : Shared} {H : Hp} {f c' : Addr} (hr : Room (lv + 1) (A'.deeper (LamX.lamEnv X ls s.heap.objs.size f c'))) : XOk A E C lv τ N ls (LamX.lamCx X A' outer s H E ls f c') where
  calm := rfl
  nm := o.nm
  se := rfl
  tk := takes_of rfl rfl rfl (E₁ := _) rfl
  nd := o.nd
  kind := (LamX.lamS_by hL).kind
  un := hr.units
  rm := hr
  lam := fun z => by
    unfold okLam at z
    rw [List.any_eq_true] at z
    obtain ⟨y, h1, h2⟩ := z
    have q := (LamX.lamS_by hL).own y h1
    simp only [Bool.or_eq_true, decide_eq_true_eq] at h2
    exact (h2.elim q.1 q.2).elim
  tab := ⟨o.tab.O, o.tab.p1, o.tab.p2, o.tab.ty, o.tab.bi, fun x k n h => ⟨(o.tab.fn x k n h).1, (o.tab.fn x k n h).2.imp (fun ⟨a, b, c, F⟩ => ⟨a, b, c, ⟨F.ok, F.mg, F.kp, F.bd⟩⟩) fun ⟨a, b, c, F⟩ => ⟨a, b, c, ⟨F.ok, F.mkc, F.mg, F.bd, F.cl, F.own⟩⟩⟩,
    fun m c k n h => let ⟨a, b, d, F⟩ := o.tab.mt m c k n h; ⟨a, b, d, ⟨F.ok, F.cl, F.mt, F.bd⟩⟩, o.tab.co, o.tab.cl, o.tab.fl, fun x t h => let ⟨a1, a2, g, pg, bg, sg, d1, d2, d3, d4, d5, d6, d7, a3, a4, a5, b1, b2, b3, b4, b5, b6, b7, b8, b9, c0⟩ := o.tab.td x t h; ⟨a1, a2, g, pg, bg, sg, d1, d2, d3, d4, d5, d6, d7, a3, a4, a5, b1, b2, b3, b4, b5, b6, b7, b8, b9, fun h z => let w := c0 h z; ⟨w.gl, w.mg, w.db, w.xf, w.no⟩⟩, fun x fs h => ⟨(o.tab.xc x fs h).1, let ⟨f, a, b, c, e, F⟩ := (o.tab.xc x fs h).2; ⟨f, a, b, c, e, ⟨F.ok, F.oc, F.ini, F.ty, F.no, F.bd, F.mg⟩⟩⟩⟩
/-- the tests of a comprehension, one at most -/
theorem pts_of {X : Cx} {tests : List Expr} {jfs : List Ex} (hs : Oks A XE C X tests jfs) (ht : tests.all tstOk = true) (hl : jfs.length ≤ 1) : PTs X tests (tT A X.K XE (Ex.quiets jfs) (tsts C jfs)) := by
  match tests, jfs, hs, hl with
  | [], [], _, _ =>
    refine ⟨fun pins s σ H Q I hh => pts_nil.run pins s σ H Q I ?_⟩
    obtain ⟨W, e, out, e', E, hm, hp⟩ := hh
    simp only [tsts, ret, Option.some.injEq, Prod.mk.injEq] at hm
    obtain ⟨h1, h2⟩ := hm
    subst h1 h2
    exact hp W H E (.refl _ W H _ σ) true rfl
  | [t], [j], hs, _ =>
    have hpt := hs.1.pt (by simpa using ht)
    refine ⟨fun pins s σ H Q I hh => (pts_one hpt).run pins s σ H Q I ?_⟩
    obtain ⟨W, e, out, e', E, hm, hp⟩ := hh
    simp only [tsts] at hm
    refine step E (.refl _ W H e.s σ) hm hp (fun z => by simpa [Ex.quiets] using z) fun k e1 W1 H1 v hm E1 S1 _ rr => ?_
    obtain rfl : v = k := rr
    cases v with
    | true =>
      simp only [if_true, ret, Option.some.injEq, Prod.mk.injEq] at hm
      obtain ⟨h1, h2⟩ := hm
      subst h1 h2
      exact hp W1 H1 E1 S1 true rfl
    | false =>
      simp only [Bool.false_eq_true, if_false, ret, Option.some.injEq, Prod.mk.injEq] at hm
      obtain ⟨h1, h2⟩ := hm
      subst h1 h2
      exact hp W1 H1 E1 S1 false rfl
  | _ :: _ :: _, _, hs, hl =>
    have := oks_len hs
    simp at this
    omega
  | [], _ :: _, hs, _ => exact hs.elim
  | [_], [], hs, _ => exact hs.elim
  | [_], _ :: _ :: _, hs, hl => simp at hl
/-- what okC says -/
theorem okC_all {cs : Scope} {g : Tg} {it : It} {ifs : List Ex} {tg iter : Expr} {tests : List Expr} (h : okC N sc cs g it ifs tg iter tests = true) : okLam sc = true ∧ ifs.length ≤ 1 ∧ notSet iter = true ∧ tests.all tstOk = true ∧ locTg cs (relS cs sc) tg = true ∧ BlkOk N sc cs (ownOf N cs) ∧ okTg tg it = true ∧ ∀ j ∈ g.slots, j ∈ (ownOf N cs).map (·.2) := by
  unfold okC at h
  simp only [Bool.and_eq_true, decide_eq_true_eq, List.all_eq_true, List.contains_iff_mem] at h
  obtain ⟨⟨⟨⟨⟨⟨⟨h0, h1⟩, h2⟩, h3⟩, h4⟩, h5⟩, h6⟩, h7⟩ := h
  exact ⟨h0, h1, h2, by simpa using h3, h4, blkOk_by h5, h6, h7⟩
theorem x_ex (n : Nat) : ∀ e : Expr, sizeOf e < n → ∀ {sc : Scope} {ir : Ex}, trE τ N sc e = some ir → ∀ {XE : XK} {X : Cx}, XOk A XE C lv τ N sc X → Ok A XE C X e ir := by
  induction n with
  | zero => intro e h; omega
  | succ n ih =>
    intro e hz sc ir h XE X o
    unfold trE at h
    split at h
    · -- a name
      rename_i x p
      split at h
      · rename_i i hi
        cases h
        exact x_var o hi
      · split at h
        · rename_i hg
          simp only [Option.map_eq_some_iff] at h
          obtain ⟨s, h1, h2⟩ := h
          subst h2
          obtain ⟨h3, h4⟩ := o.tab.co x s h1
          exact .mk2 (b_glob (gl_of o hg) h3 h4) rfl rfl rfl fun _ => rfl
        · cases h
    · -- a constant
      simp only [Option.map_eq_some_iff] at h
      obtain ⟨t, h1, h2⟩ := h
      subst h2
      exact .mk2 (b_con h1) rfl rfl rfl fun _ => rfl
    · -- a op b
      split at h
      · rename_i a op b pos _ _ _ p ia ib h1 h2 h3
        cases h
        have ha := ih a (by simp at hz; omega) h2 o
        have hb := ih b (by simp at hz; omega) h3 o
        exact .mk2 (b_bin h1 ha.pr hb.pr) rfl rfl rfl fun _ => rfl
      · cases h
    · -- -a
      rename_i a pos
      simp only [Option.map_eq_some_iff] at h
      obtain ⟨ia, h1, h2⟩ := h
      subst h2
      have ha := ih a (by simp at hz; omega) h1 o
      exact .mk2 (b_neg ha.pr) rfl rfl rfl fun _ => rfl
    · -- not a
      rename_i a pos
      split at h
      · rename_i ht
        simp only [Option.map_eq_some_iff] at h
        obtain ⟨ia, h1, h2⟩ := h
        subst h2
        have ha := ih a (by simp at hz; omega) h1 o
        exact .mk1 (b_not (ha.pt ht) ha.pr rfl) rfl rfl rfl fun _ => t_not (ha.pt ht)
      · cases h
    · -- a o b
      split at h
      · rename_i a op b pos _ _ _ p ia ib h1 h2 h3
        cases h
        have ha := ih a (by simp at hz; omega) h2 o
        have hb := ih b (by simp at hz; omega) h3 o
        exact .mk1 (b_cmp o.un rfl h1 (not_set_mk hb.st) ha.pr hb.pr) rfl rfl rfl fun _ => t_cmp o.un rfl h1 (not_set_mk hb.st) ha.pr hb.pr
      · cases h
    · -- a o b p c
      split at h
      · rename_i a o1 o2 b c pos _ _ _ _ _ p q ia ib ic h1 h2 h3 h4 h5
        cases h
        have ha := ih a (by simp at hz; omega) h3 o
        have hb := ih b (by simp at hz; omega) h4 o
        have hc := ih c (by simp at hz; omega) h5 o
        exact .mk1 (b_chain o.un rfl h1 h2 (not_set_mk (o := o2) hc.st) ha.pr hb.pr hc.pr) rfl rfl rfl fun _ => t_chain o.un rfl h1 h2 (not_set_mk (o := o2) hc.st) ha.pr hb.pr hc.pr
      · cases h
    · -- and
      rename_i es pos
      split at h
      · rename_i ht
        simp only [Bool.and_eq_true, decide_eq_true_eq] at ht
        simp only [Option.map_eq_some_iff] at h
        obtain ⟨is, h1, h2⟩ := h
        subst h2
        have hs := x_all n ih (es := es) (by simp at hz; omega) h1 o
        have hne : es ≠ [] := fun z => by rw [z] at ht; simp at ht
        have e1 := b_and (pos := pos) rfl (hs.all ht.1) hne
        have e2 := (t_and (pos := pos) (hs.all ht.1) hne).pt
        have e3 : Pe A X.K XE C X (.BoolOp .And es pos) (.and is) := by
          show PE X _ (tE A X.K XE (Ex.and is).quiet (ev C (.and is)))
          simp only [Ex.quiet, ev]
          exact e1
        refine .mk1 e3 rfl rfl rfl fun _ => ?_
        show PT X _ (tT A X.K XE _ (tsm (.and is) (ev C (.and is))))
        rw [tsm_other rfl]
        simpa only [Ex.quiet, ev] using e2
      · cases h
    · -- or
      rename_i es pos
      split at h
      · rename_i ht
        simp only [Bool.and_eq_true, decide_eq_true_eq] at ht
        simp only [Option.map_eq_some_iff] at h
        obtain ⟨is, h1, h2⟩ := h
        subst h2
        have hs := x_all n ih (es := es) (by simp at hz; omega) h1 o
        have hne : es ≠ [] := fun z => by rw [z] at ht; simp at ht
        have e1 := b_or (pos := pos) rfl (hs.all ht.1) hne
        have e2 := (t_or (pos := pos) (hs.all ht.1) hne).pt
        have e3 : Pe A X.K XE C X (.BoolOp .Or es pos) (.or is) := by
          show PE X _ (tE A X.K XE (Ex.or is).quiet (ev C (.or is)))
          simp only [Ex.quiet, ev]
          exact e1
        refine .mk1 e3 rfl rfl rfl fun _ => ?_
        show PT X _ (tT A X.K XE _ (tsm (.or is) (ev C (.or is))))
        rw [tsm_other rfl]
        simpa only [Ex.quiet, ev] using e2
      · cases h
    · -- a if c else b
      split at h
      · rename_i c a b pos _ _ _ ic ia ib h1 h2 h3
        split at h
        · rename_i ht
          cases h
          have hc := ih c (by simp at hz; omega) h1 o
          have ha := ih a (by simp at hz; omega) h2 o
          have hb := ih b (by simp at hz; omega) h3 o
          exact .mk1 (b_ife (hc.pt ht) ha.pe hb.pe) rfl rfl rfl fun t => nomatch t
        · cases h
      · cases h
    · -- [..]
      rename_i es pos
      simp only [Option.map_eq_some_iff] at h
      obtain ⟨is, h1, h2⟩ := h
      subst h2
      have hs := x_all n ih (es := es) (by simp at hz; omega) h1 o
      exact .mk2 (b_lst hs.peL) rfl rfl rfl fun _ => rfl
    · -- (..)
      rename_i es k pos
      simp only [Option.map_eq_some_iff] at h
      obtain ⟨is, h1, h2⟩ := h
      subst h2
      have hs := x_all n ih (es := es) (by simp at hz; omega) h1 o
      exact .mk2 (b_tup hs.peL) rfl rfl rfl fun _ => rfl
    · -- {}
      cases h
      exact .mk2 b_dnew rfl rfl rfl (fun _ => rfl) fun _ _ _ => b_dnew
    · -- {k: v}
      split at h
      · rename_i k v pos _ _ ik iv h1 h2
        cases h
        have hk := ih k (by simp at hz; omega) h1 o
        have hv := ih v (by simp at hz; omega) h2 o
        exact .mk2 (b_d1 hk.pr hv.pe) rfl rfl rfl fun _ => rfl
      · cases h
    · -- a.f
      rename_i a f pos
      split at h
      · rename_i ht
        simp only [Bool.and_eq_true] at ht
        simp only [Option.map_eq_some_iff] at h
        obtain ⟨ia, h1, h2⟩ := h
        subst h2
        have ha := ih a (by simp at hz; omega) h1 o
        exact .mk2 (b_fld rfl o.tab.O (o.tab.fl f ht.2) ht.1 ha.pr) rfl rfl rfl fun _ => rfl
      · cases h
    · -- a[::-1]
      rename_i a _ _ _ _ _
      simp only [Option.map_eq_some_iff] at h
      obtain ⟨ia, h1, h2⟩ := h
      subst h2
      have ha := ih a (by simp at hz; omega) h1 o
      exact .mk2 (b_rev ha.pr rfl) rfl rfl rfl fun _ => rfl
    · -- a[lo:hi]
      split at h
      · rename_i a lo hi p2 pos _ _ _ ia il ih' h1 h2 h3
        cases h
        have ha := ih a (by simp at hz; omega) h1 o
        have po : ∀ {x : Option Expr} {ix : Option Ex}, sizeOf x < n → trO τ N sc x = some ix → Po A X.K XE C X x ix := fun {x ix} hx hh => by
          cases x with
          | none =>
            simp only [trO, Option.some.injEq] at hh
            subst hh
            exact o_none
          | some x =>
            simp only [trO, Option.map_eq_some_iff] at hh
            obtain ⟨i, z1, z2⟩ := hh
            subst z2
            exact o_some (ih x (by simp at hx; omega) z1 o).pr
        exact .mk2 (b_sl rfl ha.pr (po (by simp at hz; omega) h2) (po (by simp at hz; omega) h3)) rfl rfl rfl fun _ => rfl
      · cases h
    · -- a[i]
      split at h
      · rename_i a i pos _ _ _ _ ia ii h1 h2
        cases h
        have ha := ih a (by simp at hz; omega) h1 o
        have hi := ih i (by simp at hz; omega) h2 o
        have hsl : isSlice i = false := by
          cases i <;> first | rfl | (unfold trE at h2; cases h2)
        exact .mk2 (b_ix o.un rfl hsl ha.pr hi.pr) rfl rfl rfl fun _ => rfl
      · cases h
    · -- [.. for .. in ..]
      split at h
      · rename_i elt tg iter tests cs pos _ _ _ _ it g ifs ie h1 h2 h3 h4
        split at h
        · rename_i hok
          cases h
          obtain ⟨k0, k1, k2, k3, k4, k5, k6, k7⟩ := okC_all hok
          have hk5 : BlkOk X.N X.env.scope cs (ownOf N cs) := by rw [o.nm, o.se]; exact k5
          have hi := x_iter (tg := tg) ih (by simp at hz; omega) h1 k6 o
          refine .mk2 (b_comp o.calm (by rw [o.nm]; exact o.nd) hi hk5 ⟨fun s H Cc cl fp => ?_, fun s H Cc cl fp => ?_⟩ (fun s H Cc cl fp => ?_) k2 k7) rfl rfl rfl fun _ => rfl
          · have ob := o.blk k5.kind k0 s H Cc cl fp
            exact (x_tg n tg (by simp at hz; omega) h2 (.inl ⟨k4, fun x z => by show (cs.names.lookup x == some .cell) = true; rw [z]; rfl⟩) ob.calm ob.nm ob.nd ob.se).2
          · have ob := o.blk k5.kind k0 s H Cc cl fp
            exact pts_of (x_all n ih (by simp at hz; omega) h3 ob) k3 k1
          · have ob := o.blk k5.kind k0 s H Cc cl fp
            exact (ih elt (by simp at hz; omega) h4 ob).pe
        · cases h
      · cases h
    · -- a dict's comprehension
      split at h
      · rename_i kx vx tg iter tests cs pos _ _ _ _ _ it g ifs ik iv h1 h2 h3 h4 h5
        split at h
        · rename_i hok
          cases h
          simp only [Bool.and_eq_true] at hok
          obtain ⟨k0, k1, k2, k3, k4, k5, k6, k7⟩ := okC_all hok.1
          have hk5 : BlkOk X.N X.env.scope cs (ownOf N cs) := by rw [o.nm, o.se]; exact k5
          have hi := x_iter (tg := tg) ih (by simp at hz; omega) h1 k6 o
          refine .mk2 (b_dcomp (by have := o.un; omega) o.calm (by rw [o.nm]; exact o.nd) hi hk5 ⟨fun s H Cc cl fp => ?_, fun s H Cc cl fp => ?_⟩ (fun s H Cc cl fp => ?_) (fun s H Cc cl fp => ?_) k2 k7) rfl rfl rfl fun _ => rfl
          · have ob := o.blk k5.kind k0 s H Cc cl fp
            exact (x_tg n tg (by simp at hz; omega) h2 (.inl ⟨k4, fun x z => by show (cs.names.lookup x == some .cell) = true; rw [z]; rfl⟩) ob.calm ob.nm ob.nd ob.se).2
          · have ob := o.blk k5.kind k0 s H Cc cl fp
            exact pts_of (x_all n ih (by simp at hz; omega) h3 ob) k3 k1
          · have ob := o.blk k5.kind k0 s H Cc cl fp
            exact (ih kx (by simp at hz; omega) h4 ob).pe
          · have ob := o.blk k5.kind k0 s H Cc cl fp
            exact (ih vx (by simp at hz; omega) h5 ob).pe
        · cases h
      · cases h
    · -- f()
      split at h
      · rename_i hg
        exact x_callX o hg h trivial
      · cases h
    · -- f(a)
      split at h
      · rename_i f pf a pos hg
        have dflt : (trE τ N sc a).bind (call1 τ f) = some ir → Ok A XE C X (.Call (.Name f pf) [a] [] pos) ir := fun hh => by
          simp only [Option.bind_eq_some_iff] at hh
          obtain ⟨ia, h1, h2⟩ := hh
          exact x_call1 o hg h2 (ih a (by simp at hz; omega) h1 o)
        unfold trA at h
        split at h
        · -- told
          rename_i body ls lp
          split at h
          · rename_i t b h1 h2
            split at h
            · rename_i hc
              cases h
              simp only [Bool.and_eq_true] at hc
              have lam := (o.lam hc.1).resolve_left fun z => by rw [z] at h1; cases h1
              refine .mk2 (b_told rfl (gl_of o hg) (o.tab.td f t h1) lam (by rw [o.se]; exact LamX.lamS_by hc.2) fun A' outer s H E fa c' hr => ?_) rfl rfl rfl fun _ => rfl
              exact (ih body (by simp at hz; omega) h2 (o.lamx hc.2 hr)).pe
            · cases h
          · cases h
        · rename_i g pg b pos2
          split at h
          · rename_i hf
            simp only [Bool.and_eq_true] at hf
            obtain ⟨h1, h2⟩ := isN_eq hf.1
            obtain ⟨h3, h4⟩ := isN_eq hf.2
            simp only [Option.map_eq_some_iff] at h
            obtain ⟨ib, h5, h6⟩ := h
            subst h6
            have hb := ih b (by simp at hz; omega) h5 o
            subst h2 h4
            exact .mk2 (b_lrng o.calm (bn_of o h1 (o.tab.bi _ (by simp))) (bn_of o h3 (o.tab.bi _ (by simp))) hb.ns hb.pr) rfl rfl rfl fun _ => rfl
          · exact dflt h
        · rename_i g pg b c pos2
          split at h
          · rename_i hf
            simp only [Bool.and_eq_true] at hf
            obtain ⟨h1, h2⟩ := isN_eq hf.1
            obtain ⟨h3, h4⟩ := isN_eq hf.2
            split at h
            · rename_i ib ic h5 h6
              cases h
              have hb := ih b (by simp at hz; omega) h5 o
              have hc := ih c (by simp at hz; omega) h6 o
              subst h2 h4
              exact .mk2 (b_lrng2 o.calm (bn_of o h1 (o.tab.bi _ (by simp))) (bn_of o h3 (o.tab.bi _ (by simp))) hb.ns hc.ns hb.pr hc.pr) rfl rfl rfl fun _ => rfl
            · cases h
          · exact dflt h
        · exact dflt h
      · cases h
    · -- f(a, b)
      rename_i f _ a b pos
      split at h
      · rename_i hf
        obtain ⟨h1, h2⟩ := isN_eq hf
        split at h
        · rename_i ia cs h3 h4
          cases h
          have ha := ih a (by simp at hz; omega) h3 o
          subst h2
          have hb := bn_of o h1 (o.tab.bi _ (by simp))
          unfold isiOf at h4
          split at h4
          · rename_i es k pt
            split at h4
            · rename_i hl
              simp only [Bool.and_eq_true, decide_eq_true_eq] at hl
              obtain ⟨c1, c2, c3⟩ := x_clss o h4
              exact .mk2 (b_isiT rfl o.tab.O hb ha.ns (fun z => by rw [z] at c3; simp at c3; omega) (by omega) c2 ha.pr c1) rfl rfl rfl fun _ => rfl
            · cases h4
          · simp only [Option.map_eq_some_iff] at h4
            obtain ⟨c, h5, h6⟩ := h4
            subst h6
            obtain ⟨c1, c2, c3⟩ := x_cls o h5
            exact .mk2 (b_isi1 rfl o.tab.O hb ha.ns c1 c3 ha.pr c2) rfl rfl rfl fun _ => rfl
        · cases h
      · split at h
        · rename_i hg
          split at h
          · rename_i ia ib h3 h4
            exact x_call2 o hg h (ih a (by simp at hz; omega) h3 o) (ih b (by simp at hz; omega) h4 o)
          · cases h
        · cases h
    · -- f(a, b, c, ..)
      rename_i f _ a b c es pos
      split at h
      · rename_i hg
        split at h
        · rename_i ia ib ic is h1 h2 h3 h4
          exact x_callX o hg h ⟨ih a (by simp at hz; omega) h1 o, ih b (by simp at hz; omega) h2 o, ih c (by simp at hz; omega) h3 o, x_all n ih (by simp at hz; omega) h4 o⟩
        · cases h
      · cases h
    · -- o.m(..)
      rename_i a m ap es cp
      split at h
      · rename_i hln
        simp only [Option.bind_eq_some_iff] at h
        obtain ⟨is, h1, h⟩ := h
        have hs := x_all n ih (es := es) (by simp at hz; omega) h1 o
        have hl := oks_len hs
        unfold methX at h
        split at h
        · cases h
        rename_i hbl
        simp only [Bool.or_eq_true, decide_eq_true_eq, not_or, Bool.not_eq_false] at hbl
        have hlt : es.length < 29 := by omega
        split at h
        · rename_i u hu
          split at h
          · rename_i x px
            simp only [Option.map_eq_some_iff] at h
            obtain ⟨i, h2, h3⟩ := h
            subst h3
            obtain ⟨a1, a2, a3, a4⟩ := slot_at o h2
            exact .mk2 (b_mut hu rfl a1 a2 a3 a4 hln hlt hs.peL) rfl rfl rfl fun _ => rfl
          · cases h
        · split at h
          · cases h
          · rename_i ot hot
            have ha := ih a (by simp at hz; omega) hot o
            split at h
            · rename_i hget
              match es, is, hs, h with
              | [k], [ik], hs, h =>
                cases h
                exact .mk2 (b_get1 hget o.un hbl.1 hln hs.1.ns ha.pr hs.1.pr) rfl rfl rfl fun _ => rfl
              | [k, x], [ik, ix], hs, h =>
                cases h
                exact .mk2 (b_get2 hget o.un hbl.1 hln hs.1.ns hs.2.1.ns ha.pr hs.1.pr hs.2.1.pe) rfl rfl rfl fun _ => rfl
              | _ :: _ :: _ :: _, _ :: _ :: _ :: _, _, h => cases h
            · split at h
              · rename_i c k q hm
                split at h
                · rename_i hn
                  cases h
                  subst hn
                  obtain ⟨fa, fd, ps, F⟩ := o.tab.mt _ _ _ _ hm
                  exact .mk2 (b_meth rfl (passes_call o.tk fun c d σ H z => z) F o.rm hbl.1 hlt hln ha.pn hs.peL) rfl rfl rfl fun _ => rfl
                · cases h
              · cases h
      · cases h
    · cases h
end
end PB
end
section
set_option Elab.async false
set_option linter.all false
set_option maxRecDepth 100000
set_option maxHeartbeats 4000000
/-! PB32: every translated statement keeps its rules. -/
namespace PB
open PySem PySem.Spec PyProof.Rows L2
section
variable {A : Cad} {XE : XK} {C : Orc} {lv : Nat} {τ : Tab} {N : List Str} {dts : List Str} {sc : Scope} {X : Cx}
theorem x_e {e : Expr} {ir : Ex} (h : trE τ N sc e = some ir) (o : XOk A XE C lv τ N sc X) : Ok A XE C X e ir := x_ex (sizeOf e + 1) e (by omega) h o
theorem x_es {es : List Expr} {is : List Ex} (h : trEs τ N sc es = some is) (o : XOk A XE C lv τ N sc X) : Oks A XE C X es is := x_all (sizeOf es + 1) (fun e _ {sc ir} h {XE X} o => x_ex (sizeOf e + 1) e (by omega) h o) (by omega) h o
/-- a def's body -/
structure XTop (X : Cx) : Prop where
  fn : ∀ x, X.fn x = true
  po : PassesOwn (model X.prog X.w) X.A X.env X.xe
def isSc : Expr → Bool
  | .SetComp _ _ _ _ => true
  | _ => false
theorem sw_false {e : Expr} {x : Str} {px : Pos} {l : Nat} (hsc : isSc e = false) (hk : X.env.scope.kind = .function) (h : swN X.env.scope e x px = false) : swapsWith e (some (.Name x px)) l X.env = pure false := by
  have hb : (X.env.blockKind == .function) = true := by unfold Env.blockKind; rw [hk]; rfl
  have hkind : X.env.kindOf x = X.env.scope.names.lookup x := rfl
  cases e <;> first
    | rfl
    | (cases hsc; done)
    | (unfold swN at h
       unfold swapsWith
       simp only [hb, hkind, Bool.true_and, Expr.pos]
       exact congrArg pure h)
theorem tr_sc {e : Expr} {ie : Ex} (h : trE τ N sc e = some ie) : isSc e = false := by
  cases e <;> first | rfl | (unfold trE at h; cases h)
theorem asT_ok {x : Str} {e : Expr} {i : Ex} (h : Ok A XE C X e i) : Pe A X.K XE C X e (asT dts x i) ∧ ((asT dts x i).isVar = i.isVar) := by
  cases i <;> first | exact ⟨h.pe, rfl⟩ | exact ⟨h.dn _ _ rfl, rfl⟩
theorem nmS_of {x : Str} {i : Nat} {p : Pos} (o : XOk A XE C lv τ N sc X) (t : XTop X) (h : trTg N sc (.Name x p) = some (.nm i)) : NmS X i x := by
  unfold trTg at h
  simp only at h
  split at h
  · rename_i hl
    simp only [Option.map_eq_some_iff, Tg.nm.injEq] at h
    obtain ⟨j, h1, h2⟩ := h
    subst h2
    exact ⟨by rw [o.nm]; exact o.nd, by rw [o.nm]; exact findIdx_at h1, .inl (by rw [o.se]; exact hl), .inl (t.fn x)⟩
  · rename_i hl
    simp only [Option.map_eq_some_iff, Tg.nm.injEq] at h
    obtain ⟨j, h1, h2⟩ := h
    subst h2
    exact ⟨by rw [o.nm]; exact o.nd, by rw [o.nm]; exact findIdx_at h1, .inr (by rw [o.se]; exact hl), .inl (t.fn x)⟩
  · cases h
theorem name_nm {x : Str} {p : Pos} {g : Tg} (h : trTg N sc (.Name x p) = some g) : ∃ i, g = .nm i := by
  unfold trTg at h
  simp only at h
  split at h
  · simp only [Option.map_eq_some_iff] at h
    obtain ⟨j, _, h2⟩ := h
    exact ⟨j, h2.symm⟩
  · simp only [Option.map_eq_some_iff] at h
    obtain ⟨j, _, h2⟩ := h
    exact ⟨j, h2.symm⟩
  · cases h
/-- name = e -/
theorem x_asgN {x : Str} {p pos : Pos} {e : Expr} {i : Nat} {ie : Ex} (o : XOk A XE C lv τ N sc X) (t : XTop X) (hg : trTg N sc (.Name x p) = some (.nm i)) (he : trE τ N sc e = some ie) (hsw : swN sc e x p = false ∨ isDc e = false) : Ps A X.K XE C X (.Assign [.Name x p] e pos) (.asg (.nm i) (asT dts x ie)) := by
  have n := nmS_of o t hg
  have hk : X.env.scope.kind = .function := by rw [o.se]; exact o.kind
  have ok := x_e he o
  by_cases hs : swN sc e x p = true
  · have hd : isDc e = false := by
      rcases hsw with z | z
      · rw [hs] at z; cases z
      · exact z
    refine s_asgN ?_
    cases e <;> first | (cases hs; done) | (cases hd; done) | skip
    rename_i elt gs cs pp
    unfold trE at he
    split at he <;> first | (cases he; done) | (rename_i hq; cases hq; done) | (rename_i hq; cases hq)
    split at he
    · rename_i tg iter tests _ _ _ _ it g ifs ie' h1 h2 h3 h4
      split at he
      · rename_i hok
        cases he
        obtain ⟨k0, k1, k2, k3, k4, k5, k6, k7⟩ := okC_all hok
        have hk5 : BlkOk X.N X.env.scope cs (ownOf N cs) := by rw [o.nm, o.se]; exact k5
        have hi : ItX A X.K XE C X tg iter it := x_iter (tg := tg) (n := sizeOf iter + 1) (fun e _ {sc ir} h {XE X} o => x_e h o) (by omega) h1 k6 o
        have hst : (X.env.scope.names.lookup x == some .local) = true ∧ (p.line == pp.line) = true ∧ (cs.names.any fun (n, k) => n == x && (k == .local || k == .cell)) = false := by
          rw [o.se]
          unfold swN at hs
          simp only [Bool.and_eq_true, Bool.not_eq_true'] at hs
          exact ⟨hs.1.1, hs.1.2, hs.2⟩
        refine s_comp o.calm (by rw [o.nm]; exact o.nd) n.at_ (by simpa using hst.1) (sw_true hk (by simpa using hst.1) hst.2.1 hst.2.2) hi hk5 ⟨fun s H Cc cl fp => ?_, fun s H Cc cl fp => ?_⟩ (fun s H Cc cl fp => ?_) k2 k7
        · have ob := o.blk k5.kind k0 s H Cc cl fp
          exact (x_tg (sizeOf tg + 1) tg (by omega) h2 (.inl ⟨k4, fun x z => by show (cs.names.lookup x == some .cell) = true; rw [z]; rfl⟩) ob.calm ob.nm ob.nd ob.se).2
        · have ob := o.blk k5.kind k0 s H Cc cl fp
          exact pts_of (x_es h3 ob) k3 k1
        · have ob := o.blk k5.kind k0 s H Cc cl fp
          exact (x_e h4 ob).pe
      · cases he
    · cases he
  · have hs : swN X.env.scope e x p = false := by rw [o.se]; simpa using hs
    exact s_asgN (n.set (asT_ok ok).1 (sw_false (tr_sc he) hk hs))
theorem nmL_of (o : XOk A XE C lv τ N sc X) (t : XTop X) : ∀ {es : List Expr} {is : List Nat}, slotsOf N sc es = some is → NmL X is es
  | [], is, h => by
    simp only [slotsOf, Option.some.injEq] at h
    subst h
    trivial
  | e :: es, is, h => by
    cases e <;> first | (simp only [slotsOf, reduceCtorEq] at h; done) | skip
    rename_i x p
    simp only [slotsOf] at h
    split at h
    · rename_i i is' h1 h2
      cases h
      exact ⟨⟨x, p, rfl, nmS_of o t h1⟩, nmL_of o t h2⟩
    · cases h
theorem asTs_ok : ∀ {ts es : List Expr} {is : List Ex}, Oks A XE C X es is → PeL A X.K XE C X es (asTs dts ts is) ∧ (asTs dts ts is).length = is.length
  | ts, [], [], _ => by
    have : asTs dts ts [] = [] := by
      cases ts with
      | nil => rfl
      | cons t ts => cases t <;> rfl
    rw [this]
    exact ⟨trivial, rfl⟩
  | [], e :: es, i :: is, h => ⟨h.peL, rfl⟩
  | t :: ts, e :: es, i :: is, h => by
    by_cases c : ∃ x p, t = .Name x p
    · obtain ⟨x, p, c⟩ := c
      subst c
      obtain ⟨h1, h2⟩ := asTs_ok (ts := ts) h.2
      simp only [asTs]
      refine ⟨?_, by simp only [List.length_cons, h2]⟩
      refine ⟨⟨h.1.ns, (asT_ok h.1).1, ?_⟩, h1⟩
      cases i <;> first | exact h.1.pn | exact pn_other rfl (h.1.dn _ _ rfl)
    · have : asTs dts (t :: ts) (i :: is) = i :: is := by cases t <;> first | rfl | exact absurd ⟨_, _, rfl⟩ c
      rw [this]
      exact ⟨h.peL, rfl⟩
  | _, [], _ :: _, h => h.elim
  | _, _ :: _, [], h => h.elim
theorem x_asg {tg e : Expr} {pos : Pos} {ir : St} (o : XOk A XE C lv τ N sc X) (t : XTop X) (h : trAsg τ N dts sc tg e (trE τ N sc e) = some ir) : Ps A X.K XE C X (.Assign [tg] e pos) ir := by
  have hk : X.env.scope.kind = .function := by rw [o.se]; exact o.kind
  unfold trAsg at h
  split at h
  · rename_i x p
    split at h
    · cases h
    rename_i hc
    split at h
    · rename_i g ie h1 h2
      cases h
      obtain ⟨i, e1⟩ := name_nm h1
      subst e1
      refine x_asgN o t h1 h2 ?_
      simp only [Bool.and_eq_true, not_and, Bool.not_eq_true] at hc
      cases hs : swN sc e x p with
      | false => exact .inl rfl
      | true => exact .inr (hc hs)
    · cases h
  · rename_i ts k p
    split at h
    · rename_i vs k2 p2
      split at h
      · rename_i is js r h1 h2 h3
        split at h
        · rename_i hn
          cases h
          simp only [Bool.and_eq_true, decide_eq_true_eq] at hn
          have hs : Oks A XE C X vs js := by
            unfold trE at h2
            simp only [Option.map_eq_some_iff, Ex.tup.injEq] at h2
            obtain ⟨js', z1, z2⟩ := h2
            subst z2
            exact x_es z1 o
          obtain ⟨a1, a2⟩ := asTs_ok (dts := dts) (ts := ts) hs
          exact s_par o.calm rfl hk hn.1 (nmL_of o t h1) (by rw [o.se]; exact h3) a1 (by rw [a2]; exact hn.2)
        · cases h
      · cases h
    · rename_i hnt
      split at h
      · rename_i g ie h1 h2
        cases h
        have hg := x_tg (A := A) (cs := sc) (sizeOf (Expr.Tuple ts k p) + 1) _ (by omega) h1 (.inr t.fn) o.calm o.nm o.nd o.se
        have hti : isTup e = false := by
          cases e <;> first | rfl | exact (hnt _ _ _ rfl).elim
        have : ∃ gs, g = .tp gs := by
          unfold trTg at h1
          split at h1 <;> first | (rename_i hq; cases hq; done) | skip
          all_goals first | (split at h1 <;> first | (cases h1; exact ⟨_, rfl⟩) | cases h1) | cases h1
        obtain ⟨gs, e1⟩ := this
        subst e1
        exact s_asgT hti (x_e h2 o).pe hg.2
      · cases h
  · rename_i x px k p
    split at h
    · cases h
    · rename_i hsl
      split at h
      · rename_i i ik ie h1 h2 h3
        cases h
        obtain ⟨a1, a2, a3, a4⟩ := slot_at o h1
        exact s_put o.calm o.un a1 a2 a3 a4 (by simpa using hsl) (x_e h3 o).pe (x_e h2 o).pr
      · cases h
  · rename_i x px f p
    split at h
    · rename_i i ie h1 h2
      split at h
      · rename_i hf
        cases h
        obtain ⟨a1, a2, a3, a4⟩ := slot_at o h1
        exact s_fld rfl o.tab.O (o.tab.fl f hf) a1 a2 a3 a4 (x_e h2 o).pe
      · cases h
    · cases h
  · cases h
theorem x_sts (n : Nat) (ih : ∀ s : Stmt, sizeOf s < n → ∀ {ir : St}, trS τ N dts sc s = some ir → XOk A XE C lv τ N sc X → XTop X → Ps A X.K XE C X s ir) :
    ∀ {ss : List Stmt}, sizeOf ss < n → ∀ {is : List St}, trSs τ N dts sc ss = some is → XOk A XE C lv τ N sc X → XTop X → Pss A X.K XE C X ss is
  | [], _, is, h, o, t => by
    simp only [trSs, Option.some.injEq] at h
    subst h
    exact s_nil
  | s :: ss, hz, is, h, o, t => by
    simp only [trSs] at h
    simp only [List.cons.sizeOf_spec] at hz
    split at h
    · rename_i i is' h1 h2
      cases h
      exact s_cons (ih s (by omega) h1 o t) (x_sts n ih (by omega) h2 o t)
    · cases h
theorem ret_var {a : Expr} {i : Nat} {pos : Pos} (o : XOk A XE C lv τ N sc X) (h : trE τ N sc a = some (.var i)) : Ps A X.K XE C X (.Return (some a) pos) (.ret (.var i)) := by
  have hv := (x_e h o).va i rfl
  refine PS.mono (ps_ret hv) fun D σ H ⟨W, e, fl, e', E, hm, hp⟩ => ?_
  simp only [st, retV] at hm
  obtain ⟨r, q1, h2⟩ := tob_rd hm
  cases h2
  obtain ⟨v, hv, sl⟩ := E.sl i _ q1
  refine ⟨v, hv, hp W H σ E (.refl _ _ _ _) v ?_⟩
  obtain ⟨ow0, t⟩ := r
  cases ow0 with
  | false => exact sl
  | true =>
    obtain ⟨p, e2, ow⟩ := (show ∃ p, v = .ref p ∧ Own A W H t p from sl)
    have w : Ow e.s σ i p := ⟨⟨t, q1⟩, by rw [hv, e2]⟩
    exact (show ∃ p, v = .ref p ∧ Own A W H t p ∧ (H p = none ∨ ∃ j, Ow e.s σ j p) ∧ NoDr W p from ⟨p, e2, ow, .inr ⟨i, w⟩, E.nd i p w⟩)
theorem x_st (n : Nat) : ∀ s : Stmt, sizeOf s < n → ∀ {ir : St}, trS τ N dts sc s = some ir → XOk A XE C lv τ N sc X → XTop X → Ps A X.K XE C X s ir := by
  induction n with
  | zero => intro e h; omega
  | succ n ih =>
    intro s hz ir h o t
    unfold trS at h
    split at h
    · exact x_asg o t h
    · split at h
      · cases h
      · rename_i a pos hcp
        simp only [Option.map_eq_some_iff] at h
        obtain ⟨ia, h1, h2⟩ := h
        subst h2
        exact s_ex (x_e h1 o).pe (by cases a <;> first | rfl | exact absurd rfl hcp)
    · split at h
      · rename_i c a b pos _ _ _ ic ia ib h1 h2 h3
        split at h
        · rename_i ht
          cases h
          exact s_ife ((x_e h1 o).pt ht) (x_sts n ih (by simp at hz; omega) h2 o t) (x_sts n ih (by simp at hz; omega) h3 o t)
        · cases h
      · cases h
    · split at h
      · rename_i c b pos _ _ ic ib h1 h2
        split at h
        · rename_i ht
          cases h
          exact s_whl t.po ((x_e h1 o).pt ht) (x_sts n ih (by simp at hz; omega) h2 o t)
        · cases h
      · cases h
    · split at h
      · rename_i tg it b pos _ _ _ g iit ib h1 h2 h3
        split at h
        · rename_i ht
          cases h
          simp only [Bool.and_eq_true] at ht
          have hi : ItX A X.K XE C X tg it iit := x_iter (tg := tg) (n := sizeOf it + 1) (fun e _ {sc ir} h {XE X} o => x_e h o) (by omega) h2 ht.1 o
          exact s_for t.po o.calm hi (x_tg (cs := sc) (sizeOf tg + 1) tg (by omega) h1 (.inr t.fn) o.calm o.nm o.nd o.se).2 (x_sts n ih (by simp at hz; omega) h3 o t) ht.2
        · cases h
      · cases h
    · rename_i a pos
      simp only [Option.map_eq_some_iff] at h
      obtain ⟨ia, h1, h2⟩ := h
      subst h2
      cases hv : ia.isVar with
      | false => exact s_retE hv (x_e h1 o).pe
      | true =>
        cases ia <;> first | (cases hv; done) | skip
        exact ret_var o h1
    · cases h
      exact s_retN
    · split at h
      · rename_i x px es pc pos _ _ fs is h1 h2
        split at h
        · rename_i hc
          cases h
          simp only [Bool.and_eq_true, decide_eq_true_eq] at hc
          obtain ⟨hd, f, fI, fd, ps, e1, F⟩ := o.tab.xc x fs h1
          subst e1
          exact s_rse o.calm o.tk F o.rm (gl_of o hc.1.1) hd hc.1.2 (x_es h2 o).peL
        · cases h
      · cases h
    · cases h
      exact s_pass
    · cases h
      exact s_brk
    · cases h
      exact s_cont
    · cases h
/-- a body's rules -/
theorem x_body {ss : List Stmt} {is : List St} (h : trSs τ N dts sc ss = some is) (o : XOk A XE C lv τ N sc X) (t : XTop X) : Pss A X.K XE C X ss is :=
  x_sts (sizeOf ss + 1) (fun s _ {ir} h o t => x_st (sizeOf s + 1) s (by omega) h o t) (by omega) h o t
end
end PB
end
section
set_option Elab.async false
set_option linter.all false
set_option maxRecDepth 100000
/-! PB33: a def by its translated body; an exception's __init__. -/
namespace PB
open PySem PySem.Spec PyProof.Rows L2
section
variable {A : Cad} {P : Program} {w : World} {K : PySem.W.Frag} {mg : Str → Option Value} {base : Heap}
/-- the tables, in every context of this world -/
def TabW (A : Cad) (C : Orc) (lv : Nat) (τ : Tab) (P : Program) (w : World) (K : PySem.W.Frag) (mg : Str → Option Value) (base : Heap) : Prop :=
  ∀ X : Cx, X.prog = P → X.w = w → X.K = K → X.mg = mg → X.base = base → TabOk A C lv τ X
/-- where this def makes lambdas: its code object's table -/
def LamW (A : Cad) (τ : Tab) (mg : Str → Option Value) (base : Heap) (scope : Scope) (qual : Str) (cd : Value) : Prop :=
  okLam scope = true → τ.td = [] ∨ ∃ c P, cd = .ref c ∧ LamX.TabB base mg c P ∧ (P, qual ++ "<lambda>") ∈ A.tb ∧ ∀ p ∈ A.tb, p.1 = P → p.2 = qual ++ "<lambda>"
theorem xok_bd {C : Orc} {lv : Nat} {τ : Tab} {N ps : List Str} {qual : Str} {scope : Scope} {fa : Addr} {cdv : Value} {Ar : Around} {outer : List Env} {s : Shared} {H : Hp} {E : XK} (S : FnScope N ps scope) (tab : TabW A C lv τ P w K mg base) {k : Nat} (hr : Room k (Ar.deeper (envOfC qual scope s.heap.objs.size fa cdv))) (hk : lv + 1 ≤ k) (lam : LamW A τ mg base scope (qual ++ ".<locals>.") cdv) (hk3 : τ.td = [] ∨ lv + 3 ≤ k) :
    XOk A E C lv τ N scope (bdX P w K mg base N qual scope fa cdv Ar outer s H E) where
  calm := rfl
  nm := rfl
  se := rfl
  tk := takes_bd
  nd := S.nd
  kind := S.kind
  un := hr.units
  rm := hr.mono hk
  lam := fun z => hk3.elim (fun e => .inl e) fun e => (lam z).imp id fun ⟨c, P, h1, h2, h3, h4⟩ => ⟨hr.mono e, c, P, h1, h2, h3, h4⟩
  tab := tab _ rfl rfl rfl rfl rfl
theorem xtop_bd {N : List Str} {qual : Str} {scope : Scope} {fa : Addr} {cdv : Value} {Ar : Around} {outer : List Env} {s : Shared} {H : Hp} {E : XK} : XTop (bdX P w K mg base N qual scope fa cdv Ar outer s H E) := ⟨fun _ => rfl, owns_bd⟩
theorem def_ok {Γ : List (Fd × Bool)} {b : Bool} {f n lv k : Nat} {τ : Tab} {dts : List Str} {x qual : Str} {pr : Arguments} {body : List Stmt} {scope : Scope} {fa : Addr} {fd : FuncData} {N ps : List Str} {ir : List St} (F : FunD K x qual pr body scope [] [] fa fd) (S : FnScope N ps scope) (hle : ps.length ≤ N.length) (hΓ : Γ[f]? = some (.fn ps.length N.length ir, b))
    (h : trSs τ N dts scope body = some ir) (tab : TabW A (callN Γ n) lv τ P w K mg base) (lam : LamW A τ mg base scope (qual ++ ".<locals>.") fd.code) (hk : lv + 1 ≤ k) (hk3 : τ.td = [] ∨ lv + 3 ≤ k) : FnOk P w K mg base (L2.CX P w) (k + 1) fa fd ps (spB A K (callN Γ (n + costF (Fd.fn ps.length N.length ir, b) + 1) f) ps.length) :=
  fn_ok (k := k) F S hle hΓ fun cdv hcv Ar outer s H E hr => x_body h (xok_bd S tab hr hk (by rw [← hcv]; exact lam) hk3) xtop_bd
theorem ini_ok {Γ : List (Fd × Bool)} {b : Bool} {f n lv m k : Nat} {τ : Tab} {dts : List Str} {x qual Cn : Str} {pr : Arguments} {body : List Stmt} {scope : Scope} {fa : Addr} {fd : FuncData} {N ps : List Str} {ir : List St} (F : FunD K x qual pr body scope [] [] fa fd) (S : FnScope N ps scope) (hle : ps.length ≤ N.length) (hm : ps.length = m + 1) (hΓ : Γ[f]? = some (.init Cn ps.length N.length ir, b))
    (h : trSs τ N dts scope body = some ir) (tab : TabW A (callN Γ n) lv τ P w K mg base) (lam : LamW A τ mg base scope (qual ++ ".<locals>.") fd.code) (hk : lv + 1 ≤ k) (hk3 : τ.td = [] ∨ lv + 3 ≤ k) : FnOk P w K mg base (L2.CX P w) (k + 1) fa fd ps (spI A K (callN Γ (n + costF (Fd.init Cn ps.length N.length ir, b) + 1) f) Cn m) :=
  init_ok (k := k) F S hle hm hΓ fun cdv hcv Ar outer s H E hr => x_body h (xok_bd S tab hr hk (by rw [← hcv]; exact lam) hk3) xtop_bd
/-- an exception's __init__ of one field -/
theorem xini_ok {k : Nat} {x qual sf y f : Str} {pr : Arguments} {p1 p2 p3 p4 : Pos} {scope : Scope} {fa : Addr} {fd : FuncData} (F : FunD K x qual pr [.Assign [.Attribute (.Name sf p1) f p2] (.Name y p3) p4] scope [] [] fa fd) (S : FnScope [sf, y] [sf, y] scope)
    (h1 : scope.names.lookup sf = some .local) (h2 : scope.names.lookup y = some .local) (d1 : (sf == ("__debug__" : Str)) = false) (d2 : (y == ("__debug__" : Str)) = false) (c1 : (sf == ("__classdict__" : Str)) = false) (c2 : (y == ("__classdict__" : Str)) = false) :
    FnOk P w K mg base (L2.CX P w) (k + 1) fa fd [sf, y] (spX K f) := by
  refine F.ok S (fun vs H Q E ⟨a, Cx, v, e, _⟩ => by rw [e]; rfl) fun cdv Ar outer s H vs Q E hr hsp => ?_
  obtain ⟨a, Cx, v, e, ha, hoc, hno, kk⟩ := hsp
  subst e
  refine ⟨_, pss_one (ps_ost (f := f) (pe_var (i := 0) rfl (.inl h1) d1 c1) (pe_var (i := 1) rfl (.inl h2) d2 c2)), ?_⟩
  exact ⟨v, rfl, .ref a, rfl, a, Cx, rfl, hoc, hno, .inl ⟨ha, fun dx n1 n2 => kk dx n1 n2⟩⟩
end
end PB
end
section
set_option Elab.async false
set_option linter.all false
set_option maxRecDepth 100000
/-! PB34: the draws' start. -/
namespace PB
open PySem PySem.Spec PyProof.Rows L2
section
variable {A : Cad} {P : Program} {w : World} {K : PySem.W.Frag} {mg : Str → Option Value} {base : Heap}
theorem sc_sq {W : Wd} {H : Hp} {ns : List Int} (h : ScOk A K W H) (e : some ns = W.ns) : SqL K H W.sc (ns.map V.int) := by
  obtain ⟨_, h⟩ := h
  rw [← e] at h
  rcases h with ⟨o, h⟩ | ⟨o, its, n, h1, h2, h3, h4, h5, h6⟩ | h
  · exact .inl (.inr ⟨o, h⟩)
  · exact .inr ⟨o, its, n, h1, h2, h3, h4, h5, h6⟩
  · cases h
theorem ints_fz {W : Wd} : ∀ {ts : List T} {ns : List Int} {vs : List V}, intsOf ts = some ns → FzL A W ts vs → vs = ns.map V.int
  | [], ns, [], h, _ => by cases h; rfl
  | .int i :: ts, ns, v :: vs, h, f => by
    simp only [intsOf, Option.map_eq_some_iff] at h
    obtain ⟨ms, h1, h2⟩ := h
    subst h2
    simp only [FzL, Fz] at f
    rw [f.1, ints_fz h1 f.2]
    rfl
  | .non :: _, _, _, h, _ => by simp [intsOf] at h
  | .bl _ :: _, _, _, h, _ => by simp [intsOf] at h
  | .str _ :: _, _, _, h, _ => by simp [intsOf] at h
  | .lst _ :: _, _, _, h, _ => by simp [intsOf] at h
  | .tup _ :: _, _, _, h, _ => by simp [intsOf] at h
  | .dK _ :: _, _, _, h, _ => by simp [intsOf] at h
  | .dT _ :: _, _, _, h, _ => by simp [intsOf] at h
  | .ins _ _ :: _, _, _, h, _ => by simp [intsOf] at h
  | .tok :: _, _, _, h, _ => by simp [intsOf] at h
  | .scr _ :: _, _, _, h, _ => by simp [intsOf] at h
  | [], _, _ :: _, _, f => by simp only [FzL] at f
  | _ :: _, _, [], _, f => by simp only [FzL] at f
theorem start_ok {Γ : List (Fd × Bool)} {f n k : Nat} {x qual : Str} {pr : Arguments} {k1 k2 k3 : Nat} {p1 p2 p3 p4 p5 p6 p7 p8 : Pos} {scope : Scope} {fa : Addr} {fd : FuncData}
    (F : FunD K x qual pr [.Return (some (.List [.Call (.Name "list" p1) [.Name "script" p2] [] p3, .Constant (.int 0) k1 p4, .Constant (.int 0) k2 p5, .Constant (.int 29) k3 p6] p7)) p8] scope [] [] fa fd) (S : FnScope ["script"] ["script"] scope)
    (h1 : scope.names.lookup ("script" : Str) = some .local) (h2 : scope.names.lookup ("list" : Str) = some .globalImplicit) (hm : mg "list" = none) (hΓ : Γ[f]? = some (.start, false)) :
    FnOk P w K mg base (L2.CX P w) (k + 1) fa fd ["script"] (spB A K (callN Γ (n + 1) f) 1) := by
  refine F.ok S (fun vs H Q E h => h.1) fun cdv Ar outer s H vs Q E hr hsp => ?_
  obtain ⟨hl, W, ts, d, out, d', E0, f0, hc, kk⟩ := hsp
  refine ⟨_, pss_one (ps_ret (pe_lst (pa_cons (pe_callTy call_list_of h2 hm (by decide +kernel) (pa_cons (pe_var (i := 0) rfl (.inl h1)) pa_nil) (by decide) (by decide)) (pa_cons pe_int (pa_cons pe_int (pa_cons pe_int pa_nil)))))), ?_⟩
  rw [show n + 1 = n + costF (Fd.start, false) + 1 from rfl, callN_at hΓ] at hc
  have hdr : d = none → W.dr = none := fun ed => by
    subst ed
    have z := E0.dr
    unfold DrOk at z
    cases hw : W.dr with
    | none => rfl
    | some y => rw [hw] at z; exact z.elim
  -- the script's list stands at a
  have main : ∀ (a : Addr) (ns : List Int), d = none → vs = [.ref a] → SqL K H a (ns.map V.int) → out = .ok (false, .tok) → d' = some ⟨ns, 0, 0, 29⟩ →
      (tRet (tLst (tCons (tCB (fun xs H Q => ∃ p ys, xs = [.ref p] ∧ (SqL K H p ys ∨ SqT K H p ys) ∧ ∀ l, H l = none → Q (.ref l) (upd H l (.lst ys))) (tCons (tVar 0) tNil)) (tCons (tC (.int 0)) (tCons (tC (.int 0)) (tCons (tC (.int 29)) tNil)))))) { nx := fun _ H' => Q .non H', rt := Q } (L2.start ["script"] vs) H := fun a ns ed ev sq eo ed' => by
    subst ed ev eo ed'
    have hdr := hdr rfl
    refine ⟨.ref a, rfl, a, ns.map V.int, rfl, .inl sq, fun l hl1 => ⟨by show 4 ≤ sizeLine; decide, fun q hq => ?_⟩⟩
    have ne : q ≠ l := fun z => by rw [z, upd_same] at hq; cases hq
    have hq0 : H q = none := by rw [upd_ne ne] at hq; exact hq
    have E1 := (E0.ext (upd_ext hl1)).ext (upd_ext (o := .lst [.ref l, .int 0, .int 0, .int 29]) hq)
    refine kk { W with dr := some (q, l) } _ ⟨E1.le, ?_, E1.sc, rfl, fun i r h => by simp at h, fun i j p h => (noOwn h).elim, fun i p h => (noOwn h).elim⟩ ⟨⟨fun _ _ z => z, (fun x z => by rw [hdr] at z; cases z), rfl, rfl, rfl⟩, fun a o z _ _ => upd_ext hq _ _ (upd_ext hl1 _ _ z), fun a z => ?_, fun a o z => .inl z, fun i p h => (noOwn h).elim, fun d z => ?_⟩ _ ?_
    · exact ⟨ne, E0.noG hq0, E0.noG hl1, upd_same, by rw [upd_ne (Ne.symm ne), upd_same]⟩
    · cases y : H a with
      | none => rfl
      | some o => rw [upd_ext hq _ _ (upd_ext hl1 _ _ y)] at z; cases z
    · cases z
      exact .inr ⟨hq0, hl1⟩
    · show Fz A { W with dr := some (q, l) } .tok (.ref q)
      simp only [Fz]
      exact ⟨q, l, rfl, rfl⟩
  match ts, vs, f0, d, hc with
  | [.scr ns], [v], f0, none, hc =>
    simp only [runF, Option.some.injEq, Prod.mk.injEq] at hc
    have f1 : v = .ref W.sc ∧ some ns = W.ns := by
      simp only [FzL, Fz] at f0
      exact f0.1
    obtain ⟨e1, e2⟩ := f1
    subst e1
    exact main _ ns rfl rfl (sc_sq E0.sc e2) hc.1.symm hc.2.symm
  | [.lst us], [v], f0, none, hc =>
    simp only [runF, Option.map_eq_some_iff, Prod.mk.injEq] at hc
    obtain ⟨ns, h1, h2, h3⟩ := hc
    have f1 : ∃ a ws, v = .ref a ∧ W.G a = some (.lst ws) ∧ FzL A W us ws := by
      simp only [FzL, Fz] at f0
      exact f0.1
    obtain ⟨a, ws, e1, g, f2⟩ := f1
    subst e1
    refine main a ns rfl rfl ?_ h2.symm h3.symm
    rw [← ints_fz h1 f2]
    rcases E0.le _ _ g with z | ⟨z, _⟩
    · exact .inl (.inl z)
    · cases z
end
end PB
end
section
set_option Elab.async false
set_option linter.all false
set_option maxRecDepth 100000
/-! PB35: a draw. -/
namespace PB
open PySem PySem.Spec PyProof.Rows L2
/-- the def's body, by the places of its parts -/
def pickB (p : Nat → Pos) : List Stmt := [ (.Assign ([ (.Subscript ((.Name "state" (p 1))) ((.Constant (.int 2) 0 (p 2))) (p 3))]) ((.BinOp ((.Subscript ((.Name "state" (p 4))) ((.Constant (.int 2) 0 (p 5))) (p 6))) ( .Add) ((.Constant (.int 1) 0 (p 7))) (p 8))) (p 9)), (.While ((.BoolOp (.And) ([ (.Compare ((.Subscript ((.Name "state" (p 10))) ((.Constant (.int 1) 0 (p 11))) (p 12))) ([ .Eq]) ([(.Constant (.int 0) 0 (p 13))]) (p 14)), (.Compare ((.Subscript ((.Name "state" (p 15))) ((.Constant (.int 0) 0 (p 16))) (p 17))) ([ .NotEq]) ([(.List [] (p 18))]) (p 19))]) (p 20))) ([ (.Assign ([(.Name "cell" (p 21))]) ((.Call ((.Name "abs" (p 22))) ([ (.Call ((.Attribute ((.Subscript ((.Name "state" (p 23))) ((.Constant (.int 0) 0 (p 24))) (p 25))) ("pop") (p 26))) ([(.Constant (.int 0) 0 (p 27))]) ([]) (p 28))]) ([]) (p 29))) (p 30)), (.Assign ([ (.Subscript ((.Name "state" (p 31))) ((.Constant (.int 3) 0 (p 32))) (p 33))]) ((.BinOp ((.Call ((.Name "int" (p 34))) ([ (.BinOp ((.BinOp ((.BinOp ((.Subscript ((.Name "state" (p 35))) ((.Constant (.int 3) 0 (p 36))) (p 37))) ( .Mult) ((.Constant (.int 6151) 0 (p 38))) (p 39))) ( .Add) ((.Name "cell" (p 40))) (p 41))) ( .Add) ((.Constant (.int 5) 0 (p 42))) (p 43))]) ([]) (p 44))) ( .Mod) ((.Constant (.int 2147483647) 0 (p 45))) (p 46))) (p 47)), (.Assign ([ (.Subscript ((.Name "state" (p 48))) ((.Constant (.int 1) 0 (p 49))) (p 50))]) ((.IfExp ((.Compare ((.Name "cell" (p 51))) ([ .GtE]) ([ (.BinOp ((.Constant (.int 10) 0 (p 52))) ( .Pow) ((.Constant (.int 18) 0 (p 53))) (p 54))]) (p 55))) ((.Name "cell" (p 56))) ((.Constant (.int 0) 0 (p 57))) (p 58))) (p 59))]) ([]) (p 60)), (.If ((.Compare ((.Subscript ((.Name "state" (p 61))) ((.Constant (.int 1) 0 (p 62))) (p 63))) ([ .Gt]) ([(.Constant (.int 0) 0 (p 64))]) (p 65))) ([ (.Assign ([(.Name "digit" (p 66))]) ((.BinOp ((.Call ((.Name "int" (p 67))) ([ (.Subscript ((.Name "state" (p 68))) ((.Constant (.int 1) 0 (p 69))) (p 70))]) ([]) (p 71))) ( .Mod) ((.Name "many" (p 72))) (p 73))) (p 74)), (.Assign ([ (.Subscript ((.Name "state" (p 75))) ((.Constant (.int 1) 0 (p 76))) (p 77))]) ((.BinOp ((.Subscript ((.Name "state" (p 78))) ((.Constant (.int 1) 0 (p 79))) (p 80))) ( .FloorDiv) ((.Name "many" (p 81))) (p 82))) (p 83)), (.Return (some (.Name "digit" (p 84))) (p 85))]) ([]) (p 86)), (.Assign ([(.Name "mixed" (p 87))]) ((.BinOp ((.Call ((.Name "int" (p 88))) ([ (.BinOp ((.BinOp ((.BinOp ((.Subscript ((.Name "state" (p 89))) ((.Constant (.int 3) 0 (p 90))) (p 91))) ( .Add) ((.BinOp ((.Constant (.int 7907) 0 (p 92))) ( .Mult) ((.Subscript ((.Name "state" (p 93))) ((.Constant (.int 2) 0 (p 94))) (p 95))) (p 96))) (p 97))) ( .Add) ((.Constant (.int 104723) 0 (p 98))) (p 99))) ( .Pow) ((.Constant (.int 5) 0 (p 100))) (p 101))]) ([]) (p 102))) ( .Mod) ((.Constant (.int 2147483629) 0 (p 103))) (p 104))) (p 105)), (.Return ((some (.BinOp ((.BinOp ((.Call ((.Name "int" (p 106))) ([ (.BinOp ((.BinOp ((.BinOp ((.BinOp ((.Name "mixed" (p 107))) ( .Mult) ((.Constant (.int 48271) 0 (p 108))) (p 109))) ( .Add) ((.BinOp ((.Constant (.int 30011) 0 (p 110))) ( .Mult) ((.Subscript ((.Name "state" (p 111))) ((.Constant (.int 2) 0 (p 112))) (p 113))) (p 114))) (p 115))) ( .Add) ((.Constant (.int 31) 0 (p 116))) (p 117))) ( .Pow) ((.Constant (.int 3) 0 (p 118))) (p 119))]) ([]) (p 120))) ( .Mod) ((.Constant (.int 1000000007) 0 (p 121))) (p 122))) ( .Mod) ((.Name "many" (p 123))) (p 124)))) (p 125))]
section
variable {X : Cx} {pos q1 q2 q3 : Pos} {a b c : Expr}
/-- an expression that tells an int and leaves all as it is -/
def tIv (v : L2.St → Hp → Int → Prop) : TE := fun σ H Q => ∃ i, v σ H i ∧ Q (.int i) H
def tBv (v : L2.St → Hp → Bool → Prop) : TT := fun σ H Q => ∃ i, v σ H i ∧ Q i H
variable {va vb : L2.St → Hp → Int → Prop}
theorem iv_con {i : Int} {k : Nat} : PE X (.Constant (.int i) k pos) (tIv fun _ _ j => j = i) := PE.mono pe_int fun σ H Q ⟨j, e, h⟩ => by subst e; exact h
theorem iv_var {n : Nat} {x : Str} (hN : X.N[n]? = some x) (hv : X.env.scope.names.lookup x = some .local) (h1 : (x == ("__debug__" : Str)) = false) (h2 : (x == ("__classdict__" : Str)) = false) : PE X (.Name x pos) (tIv fun σ _ j => σ[n]? = some (some (.int j))) :=
  PE.mono (pe_var hN (.inl hv) h1 h2) fun σ H Q ⟨j, e, h⟩ => ⟨_, e, h⟩
theorem iv_bin {o : Operator} {C : Int → Int → Prop} {g : Int → Int → Int} (ho : OpR X (binaryOp o) (L2.rI C fun i j => .int (g i j))) (ha : PE X a (tIv va)) (hb : PE X b (tIv vb)) : PE X (.BinOp a o b pos) (tIv fun σ H k => ∃ i j, va σ H i ∧ vb σ H j ∧ C i j ∧ k = g i j) :=
  PE.mono (pe_op ho ha hb) fun σ H Q ⟨k, ⟨i, j, h1, h2, h3, h4⟩, h⟩ => ⟨i, h1, j, h2, i, j, rfl, rfl, h3, by rw [h4] at h; exact h⟩
theorem op_add' : OpR X (binaryOp .Add) (L2.rI (fun _ _ => True) fun i j => .int (i + j)) := fun pins s σ H x y v u Q I rx ry ⟨i, j, e1, e2, _, h⟩ => op_add pins s σ H x y v u Q I rx ry ⟨i, j, e1, e2, h⟩
/-- state[k] -/
def SAt (k : Int) (σ : L2.St) (H : Hp) (x : V) : Prop := ∃ q xs, σ[0]? = some (some (.ref q)) ∧ H q = some (.lst xs) ∧ atI xs k = some x
variable {k : Int}
theorem pe_st (hst : ∀ q1 : Pos, PE X (.Name "state" q1) (tVar 0)) : PE X (.Subscript (.Name "state" q1) (.Constant (.int k) 0 q2) q3) (fun σ H Q => ∃ x, SAt k σ H x ∧ Q x H) :=
  PE.mono (pe_ix ix_seq (hst q1) pe_int (slice_ok rfl)) fun σ H Q ⟨x, ⟨q, xs, h1, h2, h3⟩, h⟩ => ⟨.ref q, h1, .inl ⟨q, xs, k, x, rfl, rfl, .inl (.inl h2), h3, h⟩⟩
theorem iv_st (hst : ∀ q1 : Pos, PE X (.Name "state" q1) (tVar 0)) : PE X (.Subscript (.Name "state" q1) (.Constant (.int k) 0 q2) q3) (tIv fun σ H j => SAt k σ H (.int j)) := PE.mono (pe_st hst) fun σ H Q ⟨j, e, h⟩ => ⟨_, e, h⟩
theorem iv_int {p1 : Pos} (hg : Gl X "int") (hm : X.mg "int" = none) (hs : noStar a = true) (ha : PE X a (tIv va)) : PE X (.Call (.Name "int" p1) [a] [] pos) (tIv va) :=
  PE.mono (pe_callTy call_int1 hg hm (by decide +kernel) (pa_cons ha pa_nil (star_ok hs [] X.env)) (by decide) (by decide) (star_ok hs [] X.env) (plain_ok (es := []) rfl _ _)) fun σ H Q ⟨j, e, h⟩ => ⟨j, e, .inl ⟨j, rfl, h⟩⟩
theorem bv_cmp {o : CmpOp} {g : Int → Int → Bool} (ho : OpR X (compareOp o) (rI0 fun i j => .bl (g i j))) (hm : behindInMarks o b = false) (ha : PE X a (tIv va)) (hb : PE X b (tIv vb)) : PT X (.Compare a [o] [b] pos) (tBv fun σ H k => ∃ i j, va σ H i ∧ vb σ H j ∧ k = g i j) :=
  PT.mono (pt_cmpR ho ha hb hm) fun σ H Q ⟨k, ⟨i, j, h1, h2, h3⟩, h⟩ => ⟨i, h1, j, h2, i, j, rfl, rfl, k, by rw [h3], h⟩
theorem op_eq' : OpR X (compareOp .Eq) (rI0 fun i j => .bl (decide (i = j))) := fun pins s σ H x y v u Q I rx ry ⟨i, j, e1, e2, h⟩ => op_eq pins s σ H x y v u Q I rx ry ⟨by rw [e1, e2]; rfl, by
  subst e1 e2
  have e : decide (V.int i = V.int j) = decide (i = j) := by by_cases c : i = j <;> simp [c]
  rw [e]
  exact h⟩
theorem dp_ints {K : PySem.W.Frag} {H : Hp} : ∀ cs : List Int, DpAll K H (cs.map V.int) (cs.map PyData.int)
  | [] => .nil
  | c :: cs => .cons (.int c) (dp_ints cs)
theorem lay_ints : ∀ cs : List Int, PyData.canLayAll0 (cs.map PyData.int) = true ∧ PyData.depthAll (cs.map PyData.int) = 0
  | [] => ⟨rfl, rfl⟩
  | c :: cs => by
    obtain ⟨h1, h2⟩ := lay_ints cs
    simp only [List.map_cons, PyData.canLayAll0, PyData.canLay0, PyData.depthAll, PyData.depth, h1, h2, Bool.and_self, Nat.max_self, and_self]
/-- state[0] != [] -/
theorem bv_ne {q4 q5 : Pos} (hu : X.A.units + 64 < cLine) (hst : ∀ q1 : Pos, PE X (.Name "state" q1) (tVar 0)) : PT X (.Compare (.Subscript (.Name "state" q1) (.Constant (.int 0) 0 q2) q3) [.NotEq] [.List [] q4] q5) (fun σ H Q => ∃ (l : Addr) (cs : List Int), SAt 0 σ H (.ref l) ∧ H l = some (.lst (cs.map V.int)) ∧ ∀ p, H p = none → Q (!cs.isEmpty) (upd H p (.lst []))) := by
  refine PT.mono (pt_cmpR (op_neD hu) (pe_st hst) (pe_lst pa_nil) rfl) fun σ H Q ⟨l, cs, h1, h2, h⟩ => ⟨.ref l, h1, ?_⟩
  refine ⟨by decide, fun p hp => ?_⟩
  have e1 : PyData.eqv (.list (cs.map .int)) (.list []) = cs.isEmpty := by cases cs <;> rfl
  refine ⟨.list (cs.map .int), .list [], .lst (.inl (.inl (upd_ext hp _ _ h2))) (dp_ints cs), .lst (.inl (.inl upd_same)) .nil, ?_, rfl, !cs.isEmpty, by rw [e1], h p hp⟩
  have := lay_ints cs
  simp [SeqAt.shaped, PyData.canLay0, PyData.depth, this.1, this.2]
/-- state[k] = e -/
theorem ps_st {e : Expr} {n : Nat} (hst : ∀ q1 : Pos, PE X (.Name "state" q1) (tVar 0)) (he : PE X e (tIv va)) : PS X (.Assign [.Subscript (.Name "state" q1) (.Constant (.int (n : Int)) 0 q2) q3] e pos)
    (fun D σ H => ∃ i q xs, va σ H i ∧ σ[0]? = some (some (.ref q)) ∧ H q = some (.lst xs) ∧ n < xs.length ∧ D.nx σ (upd H q (.lst (xs.set n (.int i))))) :=
  PS.mono (ps_asg he (pg_sub (hst q1) pe_int set_list (fun v => rfl)) (by cases e <;> rfl) (by cases e <;> rfl) rfl) fun D σ H ⟨i, q, xs, h1, h2, h3, h4, h⟩ => ⟨i, h1, .ref q, h2, q, xs, n, n, rfl, rfl, h3, by
    unfold ixN
    rw [if_pos (by omega), if_pos (by omega)]
    simp, h⟩
/-- x = e -/
theorem ps_nm {e : Expr} {x : Str} {n : Nat} (hN : X.N.Nodup) (hi : X.N[n]? = some x) (hx : X.env.scope.names.lookup x = some .local) (hs : swapsWith e (some (.Name x q1)) pos.line X.env = pure false) (he : PE X e (tIv va)) : PS X (.Assign [.Name x q1] e pos)
    (fun D σ H => ∃ i, va σ H i ∧ D.nx (σ.set n (some (.int i))) H) := PS.mono (ps_set hN hi (.inl hx) he hs (.inr hx)) fun D σ H ⟨i, h1, h⟩ => ⟨i, h1, h⟩
/-- abs(state[0].pop(0)) -/
theorem pe_cell {q4 q5 q6 q7 q8 : Pos} (hl : (q4.endLine == q5.line) = true) (hst : ∀ q1 : Pos, PE X (.Name "state" q1) (tVar 0)) (hg : Gl X "abs") (hm : X.mg "abs" = none) :
    PE X (.Call (.Name "abs" q6) [.Call (.Attribute (.Subscript (.Name "state" q1) (.Constant (.int 0) 0 q2) q3) "pop" q4) [.Constant (.int 0) 0 q7] [] q5] [] q8) (fun σ H Q => ∃ (l : Addr) (c : Int) (cs : List Int), SAt 0 σ H (.ref l) ∧ H l = some (.lst ((c :: cs).map V.int)) ∧ Q (.int (if c < 0 then -c else c)) (upd H l (.lst (cs.map V.int)))) := by
  refine PE.mono (pe_callB call_abs hg hm (by decide +kernel) (pa_cons (pe_bm PySem.F.plainAttrs_list PySem.F.slot_list_pop PySem.F.type_list_pop mt_popAt (pe_st hst) (pa_cons pe_int pa_nil) (base_ok rfl _ _ _) rfl hl rfl rfl) pa_nil) (by decide) (by decide)) fun σ H Q ⟨l, c, cs, h1, h2, h⟩ => ?_
  refine ⟨.ref l, h1, .inl ⟨rfl, _, .inl (.inl h2)⟩, l, _, 0, 0, .int c, rfl, rfl, h2, by decide, by decide, (ixN_seq (by simp [ixN] : ixN ((c :: cs).map V.int).length 0 = some 0)).1, rfl, c, rfl, ?_⟩
  exact h
end
end PB
end
section
set_option Elab.async false
set_option linter.all false
set_option maxRecDepth 100000
/-! PB36: the draws' def. -/
namespace PB
open PySem PySem.Spec PyProof.Rows L2
section
variable {X : Cx} {pos q1 q2 q3 : Pos} {a b c : Expr} {va vb : L2.St → Hp → Int → Prop}
theorem iv_ife {vt : L2.St → Hp → Bool → Prop} (hc : PT X c (tBv vt)) (ha : PE X a (tIv va)) (hb : PE X b (tIv vb)) : PE X (.IfExp c a b pos) (tIv fun σ H k => ∃ t, vt σ H t ∧ if t = true then va σ H k else vb σ H k) :=
  PE.mono (pe_ifExp hc ha hb) fun σ H Q ⟨k, ⟨t, h1, h2⟩, h⟩ => ⟨t, h1, by
    cases t with
    | true => exact ⟨k, h2, h⟩
    | false => exact ⟨k, h2, h⟩⟩
end
/-- how the draws stand in the loop -/
def PkI (H0 : Hp) (q l : Addr) (many b1 : Int) (fin : List Int × Int × Int) (m : Nat) (σ : L2.St) (H : Hp) : Prop :=
  ∃ cs a c x, m = cs.length ∧ σ = [some (.ref q), some (.int many), x, none, none] ∧ H q = some (.lst [.ref l, .int a, .int b1, .int c]) ∧ H l = some (.lst (cs.map V.int)) ∧
    (∀ p o, p ≠ q → p ≠ l → H0 p = some o → H p = some o) ∧ (∀ p, H p = none → H0 p = none) ∧ fillD cs a c = fin ∧ 0 ≤ a ∧ 0 ≤ c ∧ c < 2147483648
theorem mixC_le {c x : Int} : 0 ≤ mixC c x ∧ mixC c x < 2147483648 := by
  unfold mixC
  omega
section
variable {A : Cad} {K : PySem.W.Frag}
/-- the draws' two lists are changed -/
theorem pk_end {W : Wd} {H H' : Hp} {q l : Addr} {d : Draw} {a b c : Int} {cs : List Int} (E : EnvOk A K W H [] ⟨[], some d⟩) (hw : W.dr = some (q, l)) (h1 : H' q = some (.lst [.ref l, .int a, .int b, .int c])) (h2 : H' l = some (.lst (cs.map V.int)))
    (h3 : ∀ p o, p ≠ q → p ≠ l → H p = some o → H' p = some o) (h4 : ∀ p, H' p = none → H p = none) : EnvOk A K W H' [] ⟨[], some ⟨cs, a, b, c⟩⟩ ∧ Stp false W H [] [] W H' [] := by
  have z := E.dr
  unfold DrOk at z
  rw [hw] at z
  obtain ⟨n1, n2, n3, n4, n5⟩ := z
  have n4 : H q = some (.lst [.ref l, .int d.a, .int d.b, .int d.c]) := n4
  have n5 : H l = some (.lst (d.cs.map V.int)) := n5
  refine ⟨⟨fun a o g => ?_, ?_, ?_, rfl, fun i r h => by simp at h, fun i j p h => (noOwn h).elim, fun i p h => (noOwn h).elim⟩, ⟨.refl W, fun a o h _ n => ?_, h4, fun a o g => .inl g, fun i p h => h, fun d h => .inl h⟩⟩
  · have e1 : a ≠ q := fun z => by rw [z, n2] at g; cases g
    have e2 : a ≠ l := fun z => by rw [z, n3] at g; cases g
    rcases E.le a o g with z | ⟨z, ob, y⟩
    · exact .inl (h3 a o e1 e2 z)
    · exact .inr ⟨z, ob, h3 a _ e1 e2 y⟩
  · unfold DrOk
    rw [hw]
    exact ⟨n1, n2, n3, h1, h2⟩
  · obtain ⟨y, z⟩ := E.sc
    refine ⟨⟨y.1, tabs_keep y.2 fun b o g1 g2 => h3 b o (fun w => by rw [w, n4] at g1; cases g1; cases g2) (fun w => by rw [w, n5] at g1; cases g1; cases g2) g1⟩, z.imp (fun ⟨o, z⟩ => ⟨o, h3 _ _ (fun w => ?_) (fun w => ?_) z⟩) id⟩
    · rw [w, n4] at z; cases z
    · rw [w, n5] at z; cases z
  · obtain ⟨e1, e2⟩ := n _ (.inl hw)
    exact h3 a o e1 e2 h
theorem fillD_stop {cs : List Int} {a c : Int} (h : a ≠ 0 ∨ cs = []) : fillD cs a c = (cs, a, c) := by
  cases cs with
  | nil => rfl
  | cons x xs =>
    rcases h with h | h
    · simp only [fillD, if_neg h]
    · cases h
end
/-- behind the loop -/
def tPickE (q l : Addr) (many b1 : Int) : TS := fun D σ H => ∃ a c x, σ = [some (.ref q), some (.int many), x, none, none] ∧ H q = some (.lst [.ref l, .int a, .int b1, .int c]) ∧ 0 < many ∧ many < 1073741824 ∧ 0 ≤ b1 ∧ b1 ≤ 1099511627776 ∧ 0 ≤ c ∧ c < 2147483648 ∧
  (if 0 < a then D.rt (.int (a % many)) (upd H q (.lst [.ref l, .int (a / many), .int b1, .int c])) else D.rt (.int (drawn b1 (PB.mixed b1 c) many)) H)
section
variable {A : Cad} {P : Program} {w : World} {K : PySem.W.Frag} {mg : Str → Option Value} {base : Heap}
abbrev pickN : List Str := ["state", "many", "cell", "digit", "mixed"]
theorem pick_ok {Γ : List (Fd × Bool)} {f n k : Nat} {x qual : Str} {pr : Arguments} {p : Nat → Pos} {scope : Scope} {fa : Addr} {fd : FuncData} (F : FunD K x qual pr (pickB p) scope [] [] fa fd) (S : FnScope pickN ["state", "many"] scope)
    (hloc : ∀ y ∈ pickN, scope.names.lookup y = some .local) (gi : scope.names.lookup ("int" : Str) = some .globalImplicit) (ga : scope.names.lookup ("abs" : Str) = some .globalImplicit) (mi : mg "int" = none) (ma : mg "abs" = none) (hl : ((p 26).endLine == (p 28).line) = true) (hΓ : Γ[f]? = some (.pick, false)) :
    FnOk P w K mg base (L2.CX P w) (k + 2) fa fd ["state", "many"] (spB A K (callN Γ (n + 1) f) 2) := by
  refine F.ok S (fun vs H Q E h => h.1) fun cdv Ar outer s H vs Q E hr hsp => ?_
  obtain ⟨hlen, W, ts, d, out, d', E0, f0, hc, kk⟩ := hsp
  have hu : ((Ar.deeper (envOfC qual scope s.heap.objs.size fa cdv)).units + 64 < cLine) := hr.units
  generalize hX : cxOf (L2.CX P w) P w K mg base pickN qual scope fa cdv Ar outer s H E = X
  have cN : X.N = pickN := by subst hX; rfl
  have cS : X.env.scope = scope := by subst hX; rfl
  have cM : X.mg = mg := by subst hX; rfl
  have cU : X.A.units + 64 < cLine := by subst hX; exact hu
  have nd : X.N.Nodup := by rw [cN]; exact S.nd
  have own : PassesOwn (model X.prog X.w) X.A X.env X.xe := by subst hX; exact owns_bd
  have lo : ∀ y ∈ pickN, X.env.scope.names.lookup y = some .local := by rw [cS]; exact hloc
  have hst : ∀ q1 : Pos, PE X (.Name "state" q1) (tVar 0) := fun q1 => pe_var (by rw [cN]; rfl) (.inl (lo _ (by simp))) (by decide) (by decide)
  have v1 : ∀ q1 : Pos, PE X (.Name "many" q1) (tIv fun σ _ j => σ[1]? = some (some (.int j))) := fun q1 => iv_var (by rw [cN]; rfl) (lo _ (by simp)) (by decide) (by decide)
  have v2 : ∀ q1 : Pos, PE X (.Name "cell" q1) (tIv fun σ _ j => σ[2]? = some (some (.int j))) := fun q1 => iv_var (by rw [cN]; rfl) (lo _ (by simp)) (by decide) (by decide)
  have v3 : ∀ q1 : Pos, PE X (.Name "digit" q1) (tIv fun σ _ j => σ[3]? = some (some (.int j))) := fun q1 => iv_var (by rw [cN]; rfl) (lo _ (by simp)) (by decide) (by decide)
  have v4 : ∀ q1 : Pos, PE X (.Name "mixed" q1) (tIv fun σ _ j => σ[4]? = some (some (.int j))) := fun q1 => iv_var (by rw [cN]; rfl) (lo _ (by simp)) (by decide) (by decide)
  have hgi : Gl X "int" := by show X.env.scope.names.lookup _ = _; rw [cS]; exact gi
  have hga : Gl X "abs" := by show X.env.scope.names.lookup _ = _; rw [cS]; exact ga
  have hmi : X.mg "int" = none := by rw [cM]; exact mi
  have hma : X.mg "abs" = none := by rw [cM]; exact ma
  have it := fun {a : Expr} {va} {p1 pos : Pos} (hs : noStar a = true) (ha : PE X a (tIv va)) => iv_int (pos := pos) (p1 := p1) hgi hmi hs ha
  have x2 : X.N[2]? = some (Str.ofString "cell") := by rw [cN]; rfl
  have x3 : X.N[3]? = some (Str.ofString "digit") := by rw [cN]; rfl
  have x4 : X.N[4]? = some (Str.ofString "mixed") := by rw [cN]; rfl
  have rest : ∀ (q l : Addr) (many b1 : Int), PSs X ((pickB p).drop 2) (tPickE q l many b1) := fun q l many b1 => by
    refine PSs.mono (pss_cons (ps_if (bv_cmp op_gt rfl (iv_st hst) iv_con) (pss_cons (ps_nm nd x3 (lo _ (by simp)) rfl (iv_bin op_mod (it rfl (iv_st hst)) (v1 _)))
        (pss_cons (ps_st (n := 1) hst (iv_bin op_fdiv (iv_st hst) (v1 _))) (pss_one (ps_ret (v3 _))))) pss_nil)
      (pss_cons (ps_nm nd x4 (lo _ (by simp)) rfl (iv_bin op_mod (it rfl (iv_bin op_pow (iv_bin op_add' (iv_bin op_add' (iv_st hst) (iv_bin op_mul iv_con (iv_st hst))) iv_con) iv_con)) iv_con))
        (pss_one (ps_ret (iv_bin op_mod (iv_bin op_mod (it rfl (iv_bin op_pow (iv_bin op_add' (iv_bin op_add' (iv_bin op_mul (v4 _) iv_con) (iv_bin op_mul iv_con (iv_st hst))) iv_con) iv_con)) iv_con) (v1 _)))))) fun D σ H h => ?_
    obtain ⟨a, c, x, e, h1, m1, m2, b1', b2, c1, c2, h⟩ := h
    subst e
    refine ⟨decide (0 < a), ⟨a, 0, ⟨q, _, rfl, h1, rfl⟩, rfl, rfl⟩, ?_⟩
    by_cases ha : 0 < a
    · rw [if_pos ha] at h
      rw [if_pos (decide_eq_true ha)]
      exact ⟨a % many, ⟨a, many, ⟨q, _, rfl, h1, rfl⟩, rfl, m1, rfl⟩, a / many, q, _, ⟨a, many, ⟨q, _, rfl, h1, rfl⟩, rfl, ⟨m1, m2⟩, rfl⟩, rfl, h1, (by simp), a % many, rfl, h⟩
    · rw [if_neg ha] at h
      rw [if_neg (by simpa using ha)]
      have hm : 0 ≤ PB.mixed b1 c ∧ PB.mixed b1 c < 2147483648 := by
        unfold PB.mixed
        omega
      exact ⟨PB.mixed b1 c, ⟨_, 2147483629, ⟨c + 7907 * b1 + 104723, 5, ⟨c + 7907 * b1, 104723, ⟨c, 7907 * b1, ⟨q, _, rfl, h1, rfl⟩, ⟨7907, b1, rfl, ⟨q, _, rfl, h1, rfl⟩, .inl (by omega), rfl⟩, trivial, rfl⟩, rfl, trivial, rfl⟩, rfl, ⟨by decide, by decide, by omega⟩, rfl⟩, rfl, (by decide : (0 : Int) < 2147483629), rfl⟩,
        _, ⟨_, many, ⟨_, 1000000007, ⟨PB.mixed b1 c * 48271 + 30011 * b1 + 31, 3, ⟨PB.mixed b1 c * 48271 + 30011 * b1, 31, ⟨PB.mixed b1 c * 48271, 30011 * b1, ⟨PB.mixed b1 c, 48271, rfl, rfl, .inl (by omega), rfl⟩, ⟨30011, b1, rfl, ⟨q, _, rfl, h1, rfl⟩, .inl (by omega), rfl⟩, trivial, rfl⟩, rfl, trivial, rfl⟩, rfl, ⟨by decide, by decide, by omega⟩, rfl⟩, rfl, (by decide : (0 : Int) < 1000000007), rfl⟩, rfl, m1, rfl⟩, h⟩
  rw [show n + 1 = n + costF (Fd.pick, false) + 1 from rfl, callN_at hΓ] at hc
  match ts, vs, f0, d, hc with
  | [.tok, .int many], [v, u], f0, some D, hc =>
    simp only [FzL, Fz, and_true] at f0
    obtain ⟨⟨q, l, hw, ev1⟩, eu⟩ := f0
    subst ev1 eu
    simp only [runF, Option.map_eq_some_iff, Prod.mk.injEq] at hc
    obtain ⟨r, hp, hc1, hc2⟩ := hc
    subst hc1 hc2
    have z := E0.dr
    unfold DrOk at z
    rw [hw] at z
    obtain ⟨n1, n2, n3, n4, n5⟩ := z
    have n4 : H q = some (.lst [.ref l, .int D.a, .int D.b, .int D.c]) := n4
    have n5 : H l = some (.lst (D.cs.map V.int)) := n5
    unfold pickD at hp
    split at hp
    · rename_i hb
      simp only [Bool.and_eq_true, decide_eq_true_eq] at hb
      obtain ⟨⟨⟨⟨⟨⟨b1, b2⟩, b3⟩, b4⟩, b5⟩, b6⟩, b7⟩ := hb
      have b4 : D.b < 1099511627776 := b4
      have b6 : D.c < 2147483648 := b6
      obtain ⟨csF, aF, cF, hF⟩ : ∃ csF aF cF, fillD D.cs D.a D.c = (csF, aF, cF) := ⟨_, _, _, rfl⟩
      rw [hF] at hp
      simp only at hp
      refine ⟨_, pss_cons (ps_st (n := 2) hst (iv_bin op_add' (iv_st hst) iv_con)) (pss_cons (ps_while own (pw_and (bv_cmp op_eq' rfl (iv_st hst) iv_con) (pw_and1 (bv_ne cU hst))).pt
        (pss_cons (ps_set nd x2 (.inl (lo _ (by simp))) (pe_cell hl hst hga hma) rfl (.inr (lo _ (by simp))))
          (pss_cons (ps_st (n := 3) hst (iv_bin op_mod (it rfl (iv_bin op_add' (iv_bin op_add' (iv_bin op_mul (iv_st hst) iv_con) (v2 _)) iv_con)) iv_con))
            (pss_one (ps_st (n := 1) hst (iv_ife (bv_cmp op_ge rfl (v2 _) (iv_bin op_pow iv_con iv_con)) (v2 _) iv_con))))))
        (rest q l many (D.b + 1))), ?_⟩
      refine ⟨D.b + 1, q, _, ⟨D.b, 1, ⟨q, _, rfl, n4, rfl⟩, rfl, trivial, rfl⟩, rfl, n4, (by simp), ?_⟩
      -- behind the loop
      have fin : ∀ (H' : Hp) (x : Option V), (∀ p o, p ≠ q → p ≠ l → H p = some o → H' p = some o) → (∀ p, H' p = none → H p = none) → 0 ≤ cF → cF < 2147483648 → H' q = some (.lst [.ref l, .int aF, .int (D.b + 1), .int cF]) → H' l = some (.lst (csF.map V.int)) →
          tPickE q l many (D.b + 1) { nx := fun _ H' => Q .non H', rt := Q } [some (.ref q), some (.int many), x, none, none] H' := fun H' x k1 k2 k3 k4 g1 g2 => by
        refine ⟨aF, cF, x, rfl, g1, b1, b2, by omega, by omega, k3, k4, ?_⟩
        by_cases ha : 0 < aF
        · rw [if_pos ha] at hp ⊢
          cases hp
          obtain ⟨E1, S1⟩ := pk_end (H' := upd H' q (.lst [.ref l, .int (aF / many), .int (D.b + 1), .int cF])) (cs := csF) E0 hw upd_same (by rw [upd_ne n1.symm]; exact g2) (fun p o z1 z2 z3 => by rw [upd_ne z1]; exact k1 p o z1 z2 z3) (fun p z => by
            by_cases c : p = q
            · subst c; rw [upd_same] at z; cases z
            · rw [upd_ne c] at z; exact k2 p z)
          exact kk W _ E1 S1 (.int (aF % many)) (by show Fz A W (.int (aF % many)) _; simp only [Fz])
        · rw [if_neg ha] at hp ⊢
          cases hp
          obtain ⟨E1, S1⟩ := pk_end (cs := csF) E0 hw g1 g2 k1 k2
          exact kk W _ E1 S1 (.int _) (by show Fz A W (.int _) _; simp only [Fz])
      refine ⟨fun m σ H' => PkI H q l many (D.b + 1) (csF, aF, cF) m σ H', ⟨D.cs.length, D.cs, D.a, D.c, none, rfl, rfl, upd_same, ?_, fun p o z1 z2 z3 => ?_, fun p z => ?_, hF, b7, b5, b6⟩, ?_⟩
      · rw [upd_ne n1.symm]; exact n5
      · rw [upd_ne z1]; exact z3
      · by_cases c : p = q
        · subst c; rw [upd_same] at z; cases z
        · rw [upd_ne c] at z; exact z
      · rintro m σ H1 ⟨cs, a, c, x, em, eσ, g1, g2, k1, k2, hfd, ha, hc1, hc2⟩
        subst eσ
        refine ⟨decide (a = 0), ⟨a, 0, ⟨q, _, rfl, g1, rfl⟩, rfl, rfl⟩, ?_⟩
        by_cases h0 : a = 0
        · show (if decide (a = 0) = true then _ else _)
          rw [if_pos (decide_eq_true h0)]
          subst h0
          refine ⟨l, cs, ⟨q, _, rfl, g1, rfl⟩, g2, fun p hp1 => ?_⟩
          have pq : q ≠ p := fun z => by rw [z, hp1] at g1; cases g1
          have pl : l ≠ p := fun z => by rw [z, hp1] at g2; cases g2
          have k1' : ∀ p' o, p' ≠ q → p' ≠ l → H p' = some o → upd H1 p (.lst []) p' = some o := fun p' o z1 z2 z3 => upd_ext hp1 _ _ (k1 p' o z1 z2 z3)
          have k2' : ∀ p', upd H1 p (.lst []) p' = none → H p' = none := fun p' z => by
            by_cases c : p' = p
            · subst c; rw [upd_same] at z; cases z
            · rw [upd_ne c] at z; exact k2 p' z
          have g1' : upd H1 p (.lst []) q = some (.lst [.ref l, .int 0, .int (D.b + 1), .int c]) := by rw [upd_ne pq]; exact g1
          have g2' : upd H1 p (.lst []) l = some (.lst (cs.map V.int)) := by rw [upd_ne pl]; exact g2
          cases cs with
          | nil =>
            rw [fillD_stop (.inr rfl)] at hfd
            cases hfd
            exact fin _ x k1' k2' hc1 hc2 g1' g2'
          | cons y ys =>
            generalize upd H1 p (.lst []) = H2 at k1' k2' g1' g2'
            simp only [fillD, if_true] at hfd
            generalize hy : (if y < 0 then -y else y) = ya at hfd
            have hya : 0 ≤ ya := by rw [← hy]; split <;> omega
            refine ⟨fun σ' H' => PkI H q l many (D.b + 1) (csF, aF, cF) ys.length σ' H', fun σ' H' z => ⟨ys.length, by rw [em]; exact Nat.lt_succ_self _, z⟩, ?_⟩
            refine ⟨l, y, ys, ⟨q, _, rfl, g1', rfl⟩, g2', ?_⟩
            have h3q : upd H2 l (.lst (ys.map V.int)) q = some (.lst [.ref l, .int 0, .int (D.b + 1), .int c]) := by rw [upd_ne n1]; exact g1'
            rw [hy]
            refine ⟨mixC c ya, q, _, ⟨c * 6151 + ya + 5, 2147483647, ⟨c * 6151 + ya, 5, ⟨c * 6151, ya, ⟨c, 6151, ⟨q, _, rfl, h3q, rfl⟩, rfl, .inl (by omega), rfl⟩, rfl, trivial, rfl⟩, rfl, trivial, rfl⟩, rfl, (by decide : (0 : Int) < 2147483647), rfl⟩, rfl, h3q, (by simp), ?_⟩
            refine ⟨(if ya ≥ 1000000000000000000 then ya else 0), q, _, ⟨decide ((1000000000000000000 : Int) ≤ ya), ⟨ya, 1000000000000000000, rfl, ⟨10, 18, rfl, rfl, ⟨by decide, by decide, by decide⟩, by decide⟩, rfl⟩, ?_⟩, rfl, upd_same, (by simp), ?_⟩
            · by_cases hb : (1000000000000000000 : Int) ≤ ya
              · rw [if_pos (decide_eq_true hb), if_pos hb]; rfl
              · rw [if_neg (by simpa using hb), if_neg hb]
            · refine ⟨ys, _, mixC c ya, _, rfl, rfl, upd_same, ?_, fun p o z1 z2 z3 => ?_, fun p z => ?_, hfd, ?_, mixC_le.1, mixC_le.2⟩
              · rw [upd_ne n1.symm, upd_ne n1.symm, upd_same]
              · rw [upd_ne z1, upd_ne z1, upd_ne z2]; exact k1' p o z1 z2 z3
              · by_cases c1 : p = q
                · subst c1; rw [upd_same] at z; cases z
                · rw [upd_ne c1, upd_ne c1] at z
                  by_cases c2 : p = l
                  · subst c2; rw [upd_same] at z; cases z
                  · rw [upd_ne c2] at z; exact k2' p z
              · split <;> omega
        · show (if decide (a = 0) = true then _ else _)
          rw [if_neg (by simpa using h0)]
          rw [fillD_stop (.inl h0)] at hfd
          cases hfd
          exact fin _ x k1 k2 hc1 hc2 g1 g2
    · cases hp
end
end PB
end
section
set_option Elab.async false
set_option linter.all false
set_option maxRecDepth 100000
/-! PBG: the tables of a program's text, computed from its syntax. -/
namespace PB
open PySem L2
/-- a def or a class's method, by its text -/
structure Df where
  cls : Option Str
  name : Str
  ps : List Str
  args : Arguments
  N : List Str
  body : List Stmt
  scope : Scope
def namesOf (ps : List Str) (sc : Scope) : List Str := (if ps.isEmpty then [Str.ofString "?"] else ps) ++ (sc.names.filterMap fun p => match p.2 with
  | .local => if ps.contains p.1 then none else some p.1
  | .cell => if ps.contains p.1 then none else some p.1
  | _ => none)
/-- .. and the names of the comprehensions in it -/
def dfOf (cls : Option Str) : Stmt → Option Df
  | .FunctionDef n a b _ _ _ sc _ _ _ => some ⟨cls, n, a.args.map (·.arg), a, namesOf (a.args.map (·.arg)) sc, b, sc⟩
  | _ => none
mutual
def cpE : Nat → Expr → List Str
  | 0, _ => []
  | n + 1, e => match e with
    | .ListComp a gs sc _ => own sc ++ cpE n a ++ gs.flatMap fun g => cpE n g.iter ++ g.ifs.flatMap (cpE n)
    | .DictComp a b gs sc _ => own sc ++ cpE n a ++ cpE n b ++ gs.flatMap fun g => cpE n g.iter ++ g.ifs.flatMap (cpE n)
    | .BinOp a _ b _ => cpE n a ++ cpE n b
    | .UnaryOp _ a _ => cpE n a
    | .BoolOp _ es _ => es.flatMap (cpE n)
    | .Compare a _ es _ => cpE n a ++ es.flatMap (cpE n)
    | .IfExp a b c _ => cpE n a ++ cpE n b ++ cpE n c
    | .List es _ => es.flatMap (cpE n)
    | .Tuple es _ _ => es.flatMap (cpE n)
    | .Call f es _ _ => cpE n f ++ es.flatMap (cpE n)
    | .Attribute a _ _ => cpE n a
    | .Subscript a i _ => cpE n a ++ cpE n i
    | .Slice a b c _ => (a.toList ++ b.toList ++ c.toList).flatMap (cpE n)
    | .Lambda _ b _ _ => cpE n b
    | _ => []
def own (sc : Scope) : List Str := sc.names.filterMap fun p => match p.2 with
  | .local => some p.1
  | .cell => some p.1
  | _ => none
end
def cpS : Nat → Stmt → List Str
  | 0, _ => []
  | n + 1, s => match s with
    | .Assign ts e _ => ts.flatMap (cpE n) ++ cpE n e
    | .Expr e _ => cpE n e
    | .If c a b _ => cpE n c ++ a.flatMap (cpS n) ++ b.flatMap (cpS n)
    | .While c a b _ => cpE n c ++ a.flatMap (cpS n) ++ b.flatMap (cpS n)
    | .For _ e a b _ => cpE n e ++ a.flatMap (cpS n) ++ b.flatMap (cpS n)
    | .Return (some e) _ => cpE n e
    | .Raise (some e) _ _ => cpE n e
    | _ => []
def Df.all (d : Df) : Df := { d with N := (d.N ++ d.body.flatMap (cpS 40)).eraseDups }
def isExc (cs : List (Str × List Expr)) : Nat → Str → Bool
  | 0, _ => false
  | n + 1, x => match cs.lookup x with
    | some [.Name b _] => decide (b = Str.ofString "ValueError") || isExc cs n b
    | _ => false
def clsOf' : Stmt → Option (Str × List Expr × List Stmt)
  | .ClassDef n bs _ b _ _ _ _ _ _ _ => some (n, bs, b)
  | _ => none
def excF : List Stmt → List Str
  | [.FunctionDef _ _ [.Assign [.Attribute _ f _] _ _] _ _ _ _ _ _ _] => [f]
  | _ => []
def fldS' : Nat → List Stmt → List Str
  | 0, _ => []
  | n + 1, b => b.flatMap fun s => match s with
    | .Assign [.Attribute (.Name _ _) f _] _ _ => [f]
    | .FunctionDef _ _ b _ _ _ _ _ _ _ => fldS' n b
    | _ => []
/-- the defs that are numbered, in order -/
def dfs (top : List Stmt) : List Df :=
  let cs := top.filterMap clsOf'
  let ex := fun x => isExc (cs.map fun c => (c.1, c.2.1)) 10 x
  (top.filterMap (dfOf none)) ++ (cs.filter fun c => !ex c.1).flatMap fun c => c.2.2.filterMap (dfOf (some c.1))
def initN : Str := Str.ofString "__init__"
/-- the tellers -/
def tellers (top : List Stmt) : List (Str × Told) := top.filterMap fun s => match dfOf none s with
  | some d => (toldB d.body).map fun hs => (d.name, ⟨true, hs⟩)
  | none => none
/-- names of dicts with tuple keys, by what is stored -/
def dtS : Nat → Stmt → List Str
  | 0, _ => []
  | n + 1, s => match s with
    | .Assign [.Subscript (.Name x _) (.Tuple _ _ _) _] _ _ => [x]
    | .Assign [.Subscript (.Name x _) (.Call (.Name c _) _ _ _) _] _ _ => if c = Str.ofString "tuple" then [x] else []
    | .If _ a b _ => a.flatMap (dtS n) ++ b.flatMap (dtS n)
    | .While _ a b _ => a.flatMap (dtS n) ++ b.flatMap (dtS n)
    | .For _ _ a b _ => a.flatMap (dtS n) ++ b.flatMap (dtS n)
    | _ => []
/-- .. stored by the keys of such a dict, walked -/
def dtW (l ks : List Str) : Nat → Stmt → List Str
  | 0, _ => []
  | n + 1, s => match s with
    | .Assign [.Subscript (.Name x _) (.Name k _) _] _ _ => if ks.contains k then [x] else []
    | .If _ a b _ => a.flatMap (dtW l ks n) ++ b.flatMap (dtW l ks n)
    | .While _ a b _ => a.flatMap (dtW l ks n) ++ b.flatMap (dtW l ks n)
    | .For (.Name k _) (.Name f _) a b _ => if l.contains f then a.flatMap (dtW l (k :: ks) n) ++ b.flatMap (dtW l ks n) else a.flatMap (dtW l ks n) ++ b.flatMap (dtW l ks n)
    | .For _ _ a b _ => a.flatMap (dtW l ks n) ++ b.flatMap (dtW l ks n)
    | _ => []
def Df.dts (d : Df) : List Str :=
  let l := d.body.flatMap (dtS 40)
  l ++ d.body.flatMap (dtW l [] 40)
def tabOf (top : List Stmt) (td : List (Str × Told)) : Tab :=
  let cs := top.filterMap clsOf'
  let ex := fun x => isExc (cs.map fun c => (c.1, c.2.1)) 10 x
  let ds := (dfs top).zipIdx
  { fn := ds.filterMap fun p => match p.1.cls with
      | none => if (td.lookup p.1.name).isSome then none else some (p.1.name, p.2, p.1.ps.length)
      | some c => if p.1.name = initN then some (c, p.2, p.1.ps.length - 1) else none
    mt := ds.filterMap fun p => match p.1.cls with
      | none => none
      | some c => if p.1.name = initN then none else some (p.1.name, c, p.2, p.1.ps.length - 1)
    co := top.filterMap fun s => match s with
      | .Assign [.Name x _] (.Constant (.str v) _ _) _ => if x = Str.ofString "__name__" then none else some (x, v)
      | _ => none
    cl := (cs.filter fun c => !ex c.1).map (·.1)
    xc := (cs.filter fun c => ex c.1).filterMap fun c => match excF c.2.2 with
      | [f] => some (c.1, [f])
      | _ => none
    td := td
    tk := [Str.ofString "key_of"]
    fl := (cs.filter fun c => !ex c.1).flatMap fun c => (fldS' 5 c.2.2).eraseDups }
def trDf (τ : Tab) (d : Df) : Option (List St) := trSs τ d.all.N d.dts d.scope d.body
/-- an exception's __init__ -/
def xdfs (top : List Stmt) : List (Str × Df) :=
  let cs := top.filterMap clsOf'
  let ex := fun x => isExc (cs.map fun c => (c.1, c.2.1)) 10 x
  (cs.filter fun c => ex c.1).flatMap fun c => c.2.2.filterMap fun s => (dfOf (some c.1) s).map fun d => (c.1, d)
end PB
end
section
set_option Elab.async false
set_option linter.all false
set_option maxRecDepth 100000
set_option maxHeartbeats 2000000
/-! PBH1: the written part's facts, one Bool; from them the tables. -/
namespace PB
open PySem PySem.Spec PyProof.Rows L2
def fnScopeB (N ps : List Str) (sc : Scope) : Bool := decide (sc.kind = .function) && !sc.isCoroutine && !sc.isGenerator && decide N.Nodup && decide (N.take ps.length = ps) && (ps.all fun x => decide (sc.names.lookup x = some .local) || decide (sc.names.lookup x = some .cell)) && sc.names.all fun y => !decide (y.2 = .free)
theorem fnScope_by {N ps : List Str} {sc : Scope} (h : fnScopeB N ps sc = true) : FnScope N ps sc := by
  unfold fnScopeB at h
  simp only [Bool.and_eq_true, Bool.or_eq_true, Bool.not_eq_true', decide_eq_true_eq, decide_eq_false_iff_not, List.all_eq_true] at h
  obtain ⟨⟨⟨⟨⟨⟨h1, h2⟩, h3⟩, h4⟩, h5⟩, h6⟩, h7⟩ := h
  exact ⟨h1, h2, h3, h4, h5, h6, h7⟩
def Df.at_ (d : Df) : He.Defn := match d.cls with
  | none => (d.name, none)
  | some c => (c, some d.name)
def Df.qual (d : Df) : Str := match d.cls with
  | none => d.name
  | some c => c ++ "." ++ d.name
def Df.defD (d : Df) : He.DefD := ⟨d.at_, d.name, d.qual, d.args, d.body, d.scope, [], []⟩
abbrev Df.fun_ (K : PySem.W.Frag) (d : Df) (fd : FuncData) : Prop := FunD K d.name d.qual d.args d.body d.scope [] [] (He.fAd K d.at_) fd
/-- its arguments bind -/
def Df.bind (d : Df) : Prop := ∀ (kV doc pm : Value) (an : Option Addr) (cdv ct : Value) (us : List Value), us.length = d.ps.length → bindArgs (PySem.W.fnOf d.name d.qual d.args d.body d.scope .none kV doc pm an cdv ct) ⟨us, []⟩ = pure (d.ps.zip us)
def startN : Str := Str.ofString "_law_start"
def pickNm : Str := Str.ofString "_law_pick"
def Df.isInit (d : Df) : Bool := d.cls.isSome && decide (d.name = initN)
def Df.isTeller (d : Df) : Bool := d.cls.isNone && (toldB d.body).isSome
/-- without the tellers -/
def Tab.mute (τ : Tab) : Tab := { τ with td := [] }
/-- the def in the small language; whether lambdas are made in it -/
def fdOf (τ : Tab) (d : Df) : Fd × Bool :=
  if d.cls.isNone && decide (d.name = startN) then (.start, false) else if d.cls.isNone && decide (d.name = pickNm) then (.pick, false) else
  match trDf τ.mute d with
  | some ir => (match d.cls with
    | some c => if d.name = initN then .init c d.ps.length d.all.N.length ir else .fn d.ps.length d.all.N.length ir
    | none => .fn d.ps.length d.all.N.length ir, false)
  | none => match trDf τ d with
    | some ir => (match d.cls with
      | some c => if d.name = initN then .init c d.ps.length d.all.N.length ir else .fn d.ps.length d.all.N.length ir
      | none => .fn d.ps.length d.all.N.length ir, true)
    | none => (.fn 0 0 [], false)
/-- how a def is served -/
inductive Sv (τ : Tab) (d : Df) : Fd → Prop
  | start (h : d.cls = none) (e : d.name = startN) : Sv τ d .start
  | pick (h : d.cls = none) (e : d.name = pickNm) : Sv τ d .pick
  | fn {b : Bool} {ir : List St} (h : trDf (if b then τ else τ.mute) d = some ir) (hb : b = true → (fdOf τ d).2 = true) (hi : d.isInit = false) : Sv τ d (.fn d.ps.length d.all.N.length ir)
  | init {b : Bool} {ir : List St} {c : Str} (h : trDf (if b then τ else τ.mute) d = some ir) (hb : b = true → (fdOf τ d).2 = true) (hi : d.isInit = true) (hc : d.cls = some c) : Sv τ d (.init c d.ps.length d.all.N.length ir)
/-- it is served -/
def svB (τ : Tab) (d : Df) : Bool := (d.cls.isNone && decide (d.name = startN)) || (d.cls.isNone && decide (d.name = pickNm)) || (trDf τ.mute d).isSome || (trDf τ d).isSome
theorem sv_of {τ : Tab} {d : Df} (h : svB τ d = true) : Sv τ d (fdOf τ d).1 := by
  have main : ∀ {b : Bool} {ir : List St}, trDf (if b then τ else τ.mute) d = some ir → (b = true → (fdOf τ d).2 = true) → Sv τ d (match d.cls with
    | some c => if d.name = initN then .init c d.ps.length d.all.N.length ir else .fn d.ps.length d.all.N.length ir
    | none => .fn d.ps.length d.all.N.length ir) := fun {b ir} h1 h2 => by
    cases hc : d.cls with
    | none => exact .fn h1 h2 (by simp [Df.isInit, hc])
    | some c =>
      simp only
      split
      · rename_i e
        exact .init h1 h2 (by simp [Df.isInit, hc, e]) hc
      · rename_i e
        exact .fn h1 h2 (by simp [Df.isInit, e])
  unfold svB at h
  by_cases c1 : (d.cls.isNone && decide (d.name = startN)) = true
  · have e : fdOf τ d = (.start, false) := by unfold fdOf; rw [if_pos c1]
    rw [e]
    simp only [Bool.and_eq_true, Option.isNone_iff_eq_none, decide_eq_true_eq] at c1
    exact .start c1.1 c1.2
  · by_cases c2 : (d.cls.isNone && decide (d.name = pickNm)) = true
    · have e : fdOf τ d = (.pick, false) := by unfold fdOf; rw [if_neg c1, if_pos c2]
      rw [e]
      simp only [Bool.and_eq_true, Option.isNone_iff_eq_none, decide_eq_true_eq] at c2
      exact .pick c2.1 c2.2
    · cases h1 : trDf τ.mute d with
      | some ir =>
        have e : (fdOf τ d).1 = (match d.cls with
          | some c => if d.name = initN then .init c d.ps.length d.all.N.length ir else .fn d.ps.length d.all.N.length ir
          | none => .fn d.ps.length d.all.N.length ir) := by unfold fdOf; rw [if_neg c1, if_neg c2, h1]
        rw [e]
        exact main (b := false) h1 (fun z => by cases z)
      | none =>
        cases h2 : trDf τ d with
        | some ir =>
          have e : fdOf τ d = ((match d.cls with
            | some c => if d.name = initN then .init c d.ps.length d.all.N.length ir else .fn d.ps.length d.all.N.length ir
            | none => .fn d.ps.length d.all.N.length ir), true) := by unfold fdOf; rw [if_neg c1, if_neg c2, h1]; simp only; rw [h2]
          have e2 : (fdOf τ d).2 = true := by rw [e]
          rw [e]
          exact main (b := true) h2 (fun _ => e2)
        | none =>
          rw [h1, h2] at h
          simp only [Option.isSome_none, Bool.or_false] at h
          simp only [Bool.or_eq_true] at h
          exact (h.elim c1 c2).elim
/-! ### the facts -/
def bNames : List Str := [Str.ofString "len", Str.ofString "abs", Str.ofString "int", Str.ofString "list", Str.ofString "tuple", Str.ofString "sum", Str.ofString "any", Str.ofString "all", Str.ofString "max", Str.ofString "min", Str.ofString "str", Str.ofString "dict", Str.ofString "bool", Str.ofString "isinstance", Str.ofString "range", Str.ofString "enumerate", Str.ofString "zip"]
theorem p1_names {x : Str} {p : P1} (h : p1Of x = some p) : x ∈ bNames := by
  unfold p1Of at h
  repeat' (split at h)
  all_goals first | (cases h; done) | (rename_i e; subst e; simp [bNames])
theorem p2_names {x : Str} {p : P2} (h : p2Of x = some p) : x ∈ bNames := by
  unfold p2Of at h
  repeat' (split at h)
  all_goals first | (cases h; done) | (rename_i e; subst e; simp [bNames])
theorem ty_names {x : Str} {c : Cl} (h : tyOf x = some c) : x ∈ bNames := by
  unfold tyOf at h
  repeat' (split at h)
  all_goals first | (cases h; done) | (rename_i e; subst e; simp [bNames])
def oexB (K : PySem.W.Frag) (C : Addr) : Bool := (match K.lookup C with
  | some ⟨.type t, _, .cls cd, sl⟩ => (match cd.mro, sl.toList with
    | .ref C' :: bm, [_, _, _, _, some (.builtin n), _] => decide (t = "type") && decide (C' = C) && decide (n = "ValueError.__new__") && cd.hasDict && !cd.hasDel && PySem.HandSPX.refsVE bm
    | _, _ => false)
  | _ => false) && decide (PySem.W.findIn K (.ref C) "__setattr__" = some (some (.builtin "object.__setattr__"))) && decide (PySem.W.subIn K (.ref C) (.type "BaseException") = some true) && decide (PySem.W.typeIn K (.ref C) = some (.type "type")) && PySem.W.keepIn K (.ref C)
theorem oex_of {K : PySem.W.Frag} {C : Addr} (h : oexB K C = true) : OexC K C := by
  unfold oexB at h
  simp only [Bool.and_eq_true, decide_eq_true_eq] at h
  obtain ⟨⟨⟨⟨h1, h2⟩, h3⟩, h4⟩, h5⟩ := h
  refine ⟨?_, h2, h3, h4, h5⟩
  split at h1
  · rename_i t dd cd sl hl
    split at h1
    · rename_i C' bm k0 k1 k2 k3 n k5 hm hs
      simp only [Bool.and_eq_true, decide_eq_true_eq, Bool.not_eq_true'] at h1
      obtain ⟨⟨⟨⟨⟨rfl, rfl⟩, rfl⟩, e1⟩, e2⟩, e3⟩ := h1
      obtain ⟨nm, bs, mro, ns, qn, hd, sn, sub, ab, col, del⟩ := cd
      dsimp only at hm e1 e2
      subst hm e1 e2
      have hsl : sl = #[k0, k1, k2, k3, some (.builtin "ValueError.__new__"), k5] := by
        obtain ⟨l⟩ := sl
        simp only at hs
        rw [hs]
      subst hsl
      exact ⟨nm, qn, ns, bs, bm, sn, sub, ab, col, dd, k0, k1, k2, k3, k5, hl, e3⟩
    · cases h1
  · cases h1
def clsB (K : PySem.W.Frag) (cl : List Str) : Bool :=
  (cl.all fun x => (["NoneType", "bool", "int", "str", "list", "tuple", "dict"].all fun n => decide (PySem.W.kitOne K (.type n) (.ref (He.ga K x)) = some false)) && (["bool", "int", "str", "list", "tuple", "dict"].all fun n => decide (PySem.W.kitOne K (.ref (He.ga K x)) (.type n) = some false)) &&
    (cl.all fun y => decide (PySem.W.kitOne K (.ref (He.ga K x)) (.ref (He.ga K y)) = some (x == y))) && (He.Fa.cls x).ok K && decide (PySem.W.findIn K (.ref (He.ga K x)) "__class__" = some (some (.builtin "object.__class__"))) && decide (PySem.W.mroIn K (He.ga K x) (.type "object") = some true)) &&
  decide (PySem.W.specialIn K (.builtin "object.__class__") "__get__" = some (some (.builtin "getset_descriptor.__get__"))) && decide (PySem.W.takesIn K (.builtin "object.__class__") = some true)
theorem cls_of {K : PySem.W.Frag} {cl : List Str} {tb : List (Addr × Str)} (h : clsB K cl = true) : ClsOk K ⟨He.ga K, cl, tb⟩ := by
  unfold clsB at h
  rw [Bool.and_eq_true, Bool.and_eq_true] at h
  obtain ⟨⟨h1, h2⟩, h3⟩ := h
  rw [List.all_eq_true] at h1
  simp only [decide_eq_true_eq] at h2 h3
  have g : ∀ x ∈ cl, _ := fun x hx => by
    have z := h1 x hx
    simp only [Bool.and_eq_true] at z
    exact z
  exact ⟨fun x hx n hn => of_decide_eq_true (List.all_eq_true.mp (g x hx).1.1.1.1.1 n hn), fun x hx n hn => of_decide_eq_true (List.all_eq_true.mp (g x hx).1.1.1.1.2 n hn), fun x hx y hy => of_decide_eq_true (List.all_eq_true.mp (g x hx).1.1.1.2 y hy),
    fun x hx => He.cls_ok (g x hx).1.1.2, fun x hx => of_decide_eq_true (g x hx).1.2, h2, h3, fun x hx => of_decide_eq_true (g x hx).2⟩
end PB
end
section
set_option Elab.async false
set_option linter.all false
set_option maxRecDepth 100000
set_option maxHeartbeats 2000000
/-! PBH2: the tables hold, call depth by call depth. -/
namespace PB
open PySem PySem.Spec PyProof.Rows L2
def dbg : Str := "__debug__"
def xiB (d : Df) (f : Str) : Bool := match d.body with
  | [.Assign [.Attribute (.Name sf _) f' _] (.Name y _) _] => decide (f' = f) && decide (d.ps = [sf, y]) && fnScopeB [sf, y] [sf, y] d.scope && decide (d.scope.names.lookup sf = some .local) && decide (d.scope.names.lookup y = some .local) && !(sf == dbg) && !(y == dbg) && !(sf == ("__classdict__" : Str)) && !(y == ("__classdict__" : Str))
  | _ => false
def hsB (K : PySem.W.Frag) (hs : List (Str × List Str × Str)) : Bool := hs.all fun h => (He.Fa.glo h.1).ok K && !(h.1 == dbg) && xfB K (He.ga K h.1) && decide (PySem.W.findIn K (.ref (He.ga K h.1)) h.2.2 = some none) && hs.all fun h' => decide (PySem.W.exmOne K (.ref (He.ga K h.1)) (.ref (He.ga K h'.1)) = some (decide (h'.1 = h.1)))
def exB (τ : Tab) (K : PySem.W.Frag) : Bool :=
  (bNames.all fun x => (He.Fa.free x).ok K) && (τ.co.all fun p => (He.Fa.str p.1 p.2).ok K && !(p.1 == dbg)) && clsB K τ.cl && (τ.cl.all fun x => (He.Fa.glo x).ok K && !(x == dbg) && τ.fl.all fun f => (He.Fa.noat x f).ok K) &&
  (τ.fn.all fun p => !(p.1 == dbg) && if τ.cl.contains p.1 then (He.Fa.mkr p.1).ok K else (He.Fa.glo p.1).ok K) && (τ.mt.all fun p => (He.Fa.meth p.2.1 p.1).ok K) &&
  (τ.xc.all fun p => !(p.1 == dbg) && (He.Fa.glo p.1).ok K && oexB K (He.ga K p.1) && decide (PySem.W.findIn K (.ref (He.ga K p.1)) "__init__" = some (some (.ref (He.ma K (He.ga K p.1) "__init__")))) && decide (PySem.W.typeIn K (.ref (He.ma K (He.ga K p.1) "__init__")) = some (.type "function")) && p.2.all fun f => decide (PySem.W.findIn K (.ref (He.ga K p.1)) f = some none)) &&
  τ.td.all fun p => !(p.1 == dbg) && (He.Fa.glo p.1).ok K && hsB K p.2.hs
/-- the tables and the text -/
def linkB (τ : Tab) (ds : List Df) (xs : List (Str × Df)) : Bool :=
  (τ.fn.all fun p => match ds[p.2.1]? with
    | some d => !d.isTeller && (if τ.cl.contains p.1 then d.isInit && decide (d.cls = some p.1) && decide (p.2.2 + 1 = d.ps.length) else decide (d.cls = none) && decide (d.name = p.1) && decide (p.2.2 = d.ps.length))
    | none => false) &&
  (τ.mt.all fun p => match ds[p.2.2.1]? with
    | some d => !d.isTeller && !d.isInit && decide (d.cls = some p.2.1) && decide (d.name = p.1) && decide (p.2.2.2 + 1 = d.ps.length) && τ.cl.contains p.2.1
    | none => false) &&
  (τ.xc.all fun p => match p.2 with
    | [f] => xs.any fun q => decide (q.1 = p.1) && decide (q.2.cls = some p.1) && decide (q.2.name = initN) && xiB q.2 f
    | _ => false) &&
  (τ.td.all fun p => ds.any fun d => decide (d.cls = none) && decide (d.name = p.1) && decide (toldB d.body = some p.2.hs) && decide (d.ps = [Str.ofString "ask"]) && fnScopeB toldN ["ask"] d.scope && decide (d.scope.names.lookup ("ask" : Str) = some .local) && decide (d.scope.names.lookup ("e" : Str) = some .local) && p.2.hs.all fun h => decide (d.scope.names.lookup h.1 = some .globalImplicit))
theorem lk_mem {α : Type} {x : Str} {b : α} {l : List (Str × α)} (h : l.lookup x = some b) : (x, b) ∈ l := PySem.mem_of_lookup h
section
variable {P : Program} {w : World} {K : PySem.W.Frag} {mg : Str → Option Value} {base h : Heap} {τ : Tab} {ds : List Df} {xs : List (Str × Df)} {Γ : List (Fd × Bool)} {tb : List (Addr × Str)}
abbrev cad (K : PySem.W.Frag) (τ : Tab) (tb : List (Addr × Str)) : Cad := ⟨He.ga K, τ.cl, tb⟩
/-- a def's promise at call depth n -/
def spD (A : Cad) (K : PySem.W.Frag) (C : Orc) (k : Nat) (d : Df) : Sp := if d.isInit then spI A K (C k) (d.cls.getD initN) (d.ps.length - 1) else spB A K (C k) d.ps.length
/-- the defs at call depth n -/
def DefsOk (P : Program) (w : World) (K : PySem.W.Frag) (mg : Str → Option Value) (base : Heap) (A : Cad) (ds : List Df) (C : Orc) (n : Nat) : Prop :=
  ∀ k d, ds[k]? = some d → d.isTeller = false → ∃ fd, d.fun_ K fd ∧ Binds K fd d.ps [] ∧ FnOk P w K mg base (L2.CX P w) (if d.isInit then n else n + 1) (He.fAd K d.at_) fd d.ps (spD A K C k d) ∧ (d.isInit = true → ∀ ts dr r d', C k ts dr = some (.ok r, d') → r.1 = true)
/-- what is told of the written part -/
structure Wrt (K : PySem.W.Frag) (mg : Str → Option Value) (h : Heap) (τ : Tab) (ds : List Df) (xs : List (Str × Df)) : Prop where
  kx : K.In h
  g : h.Ns mainGlobals mg
  ex : exB τ K = true
  ln : linkB τ ds xs = true
  fd : ∀ d ∈ ds, ∃ fd, d.fun_ K fd
  fx : ∀ p ∈ xs, ∃ fd, p.2.fun_ K fd
  bd : ∀ d ∈ ds, d.bind
  bx : ∀ p ∈ xs, p.2.bind
theorem Df.binds {d : Df} {fd : FuncData} (F : d.fun_ K fd) (hb : d.bind) : Binds K fd d.ps [] := FunD.bindsN F hb
theorem defs0 {A : Cad} (W : Wrt K mg h τ ds xs) (m : Nat) : DefsOk P w K mg base A ds (callN Γ 0) m := fun k d hk ht => by
  obtain ⟨fd, F⟩ := W.fd d (List.mem_of_getElem? hk)
  refine ⟨fd, F, Df.binds F (W.bd d (List.mem_of_getElem? hk)), ?_, fun _ ts dr r d' z => by simp [callN_0] at z⟩
  unfold spD
  split
  · exact ⟨fun vs H Q E ⟨y, us, _, _, _, _, _, _, _, _, _, z, _⟩ => by simp [callN_0] at z, fun A outer s H args us vs Q E _ _ _ _ ⟨y, us', _, _, _, _, _, _, _, _, _, z, _⟩ => by simp [callN_0] at z⟩
  · exact ⟨fun vs H Q E ⟨_, _, _, _, _, _, _, _, z, _⟩ => by simp [callN_0] at z, fun A outer s H args us vs Q E _ _ _ _ ⟨_, _, _, _, _, _, _, _, z, _⟩ => by simp [callN_0] at z⟩
theorem spI_shape {A : Cad} {orc : List T → Option Draw → Option (Out R × Option Draw)} : True := trivial
theorem tab_of (W : Wrt K mg h τ ds xs) {C : Orc} {m : Nat} (D : DefsOk P w K mg base (cad K τ tb) ds C (m + 1)) : TabW (cad K τ tb) C (m + 1) τ P w K mg base := by
  intro X h1 h2 h3 h4 h5
  subst h1 h2 h3 h4 h5
  have ex := W.ex
  unfold exB at ex
  simp only [Bool.and_eq_true, List.all_eq_true] at ex
  obtain ⟨⟨⟨⟨⟨⟨⟨e1, e2⟩, e3⟩, e4⟩, e5⟩, e6⟩, e7⟩, e8⟩ := ex
  have ln := W.ln
  unfold linkB at ln
  simp only [Bool.and_eq_true, List.all_eq_true] at ln
  obtain ⟨⟨⟨l1, l2⟩, l3⟩, l4⟩ := ln
  have fr : ∀ x ∈ bNames, X.mg x = none := fun x hx => He.free_ok W.kx W.g (e1 x hx)
  have glo : ∀ {x}, (He.Fa.glo x).ok X.K = true → X.mg x = some (.ref (He.ga X.K x)) := fun z => He.glo_ok W.kx W.g z
  have db : ∀ {x : Str}, (!(x == dbg)) = true → (x == ("__debug__" : Str)) = false := fun {x} z => by simpa [dbg] using z
  refine ⟨cls_of e3, fun x p z => fr x (p1_names z), fun x p z => fr x (p2_names z), fun x c z => fr x (ty_names z), fun x z => fr x ?_, fun x k n z => ?_, fun m' c k n z => ?_, fun x s z => ?_, fun x z => ?_, fun f z x hx => ?_, fun x t z => ?_, fun x fs z => ?_⟩
  · simp only [List.mem_cons, List.not_mem_nil, or_false] at z
    rcases z with z | z | z | z | z <;> subst z <;> simp [bNames]
  · have z := lk_mem z
    have a := e5 _ z
    have b := l1 _ z
    refine ⟨db a.1, ?_⟩
    simp only at a b
    split at b
    · rename_i d hd
      simp only [Bool.and_eq_true, Bool.not_eq_true'] at b
      obtain ⟨fd, F, bd, ok, own⟩ := D k d hd b.1
      have b2 := b.2
      split at b2
      · rename_i hc
        simp only [Bool.and_eq_true, decide_eq_true_eq] at b2
        obtain ⟨⟨b3, b4⟩, b5⟩ := b2
        have a2 := a.2
        rw [if_pos hc] at a2
        have fa : He.fAd X.K d.at_ = He.ma X.K (He.ga X.K x) "__init__" := by
          have dn : d.name = initN := by simp only [Df.isInit, Bool.and_eq_true, decide_eq_true_eq] at b3; exact b3.2
          simp only [Df.at_, b4, He.fAd, dn]
          rfl
        have hx : x ∈ τ.cl := by simpa using hc
        refine .inr ⟨He.fAd X.K d.at_, fd, d.ps, ?_, by rw [fa]; exact He.mkr_ok a2, ?_, bd, hx, own b3⟩
        · have e : spD (cad X.K τ tb) X.K C k d = spI (cad X.K τ tb) X.K (C k) x n := by
            unfold spD
            rw [if_pos b3, b4, ← b5]
            rfl
          rw [e, if_pos b3] at ok
          exact ok
        · exact glo (by have := e4 x hx; exact this.1.1)
      · rename_i hc
        simp only [Bool.and_eq_true, decide_eq_true_eq] at b2
        obtain ⟨⟨b3, b4⟩, b5⟩ := b2
        have a2 := a.2
        rw [if_neg hc] at a2
        have fa : He.fAd X.K d.at_ = He.ga X.K x := by simp only [Df.at_, b3, b4, He.fAd]
        refine .inl ⟨He.fAd X.K d.at_, fd, d.ps, ?_, by rw [fa]; exact glo a2, F.kp, bd⟩
        have e : spD (cad X.K τ tb) X.K C k d = spB (cad X.K τ tb) X.K (C k) n := by
          unfold spD
          rw [if_neg (by simp [Df.isInit, b3]), b5]
        rw [e, if_neg (by simp [Df.isInit, b3])] at ok
        exact ok
    · cases b
  · have z := lk_mem z
    have a := e6 _ z
    have b := l2 _ z
    simp only at a b
    split at b
    · rename_i d hd
      simp only [Bool.and_eq_true, Bool.not_eq_true', decide_eq_true_eq] at b
      obtain ⟨⟨⟨⟨⟨b1, b2⟩, b3⟩, b4⟩, b5⟩, b6⟩ := b
      obtain ⟨fd, F, bd, ok, _⟩ := D k d hd b1
      have fa : He.fAd X.K d.at_ = He.ma X.K (He.ga X.K c) m' := by simp only [Df.at_, b3, b4, He.fAd]
      refine ⟨He.fAd X.K d.at_, fd, d.ps, ?_, (cls_of e3 (tb := tb)).kc c (by simpa using b6), by rw [fa]; exact He.meth_ok a, bd⟩
      have e : spD (cad X.K τ tb) X.K C k d = spB (cad X.K τ tb) X.K (C k) (n + 1) := by
        unfold spD
        rw [if_neg (by simp [b2]), b5]
      rw [e, if_neg (by simp [b2])] at ok
      exact ok
    · cases b
  · have a := e2 _ (lk_mem z)
    exact ⟨He.str_ok W.kx W.g a.1, db a.2⟩
  · have hx : x ∈ τ.cl := by simpa using z
    have a := e4 x hx
    exact ⟨z, glo a.1.1, db a.1.2⟩
  · have a := e4 x hx
    exact He.noat_ok (a.2 f (by simpa using z))
  · have z := lk_mem z
    have a := e8 _ z
    have b := l4 _ z
    simp only [List.any_eq_true, Bool.and_eq_true, decide_eq_true_eq, List.all_eq_true] at b
    obtain ⟨d, hd, ⟨⟨⟨⟨⟨⟨b1, b2⟩, b3⟩, b4⟩, b5⟩, b6⟩, b7⟩, b8⟩ := b
    obtain ⟨fd, F⟩ := W.fd d hd
    have bd := Df.binds F (W.bd d hd)
    obtain ⟨oc, od, dV, kV, doc, pm, an, cdv, ct, osl, e, lk, hcd, _, _⟩ := F.ex
    have fa : He.fAd X.K d.at_ = He.ga X.K x := by simp only [Df.at_, b1, b2, He.fAd]
    have q : d.qual = x := by simp only [Df.qual, b1, b2]
    have hs := a.2
    unfold hsB at hs
    simp only [List.all_eq_true, Bool.and_eq_true, decide_eq_true_eq] at hs
    refine ⟨db a.1.1, fun g hg g' hg' => (hs g hg).2 g' hg', He.fAd X.K d.at_, d.args, d.body, d.scope, dV, kV, doc, pm, cdv, ct, oc, an, od, osl, by rw [fa]; exact glo a.1.2, F.kp, ?_, ?_, ?_, fnScope_by b5, b6, b7, b3, fun g hg => ⟨b8 g hg, glo (hs g hg).1.1.1.1, db (hs g hg).1.1.1.2, xfB_ok (hs g hg).1.1.2, (hs g hg).1.2⟩⟩
    · rw [lk, e, b2, q]
    · rw [← q]; exact hcd
    · rw [b4, e, b2, q] at bd
      exact bd
  · have z := lk_mem z
    have a := e7 _ z
    have b := l3 _ z
    simp only at a b
    refine ⟨db a.1.1.1.1.1, ?_⟩
    split at b
    · rename_i f
      simp only [List.any_eq_true, Bool.and_eq_true, decide_eq_true_eq] at b
      obtain ⟨q, hq, ⟨⟨b1, b2⟩, b3⟩, b4⟩ := b
      obtain ⟨fd, F⟩ := W.fx q hq
      have fa : He.fAd X.K q.2.at_ = He.ma X.K (He.ga X.K x) "__init__" := by
        simp only [Df.at_, b2, He.fAd, b3]
        rfl
      have bd := Df.binds F (W.bx q hq)
      unfold xiB at b4
      split at b4
      · rename_i sf p1 f' p2 y p3 p4 hbody
        simp only [Bool.and_eq_true, decide_eq_true_eq, Bool.not_eq_true'] at b4
        obtain ⟨⟨⟨⟨⟨⟨⟨⟨c1, c2⟩, c3⟩, c4⟩, c5⟩, c6⟩, c7⟩, c8⟩, c9⟩ := b4
        subst c1
        have F' : FunD X.K q.2.name q.2.qual q.2.args q.2.body q.2.scope [] [] (He.fAd X.K q.2.at_) fd := F
        rw [hbody] at F'
        refine ⟨f', He.fAd X.K q.2.at_, fd, q.2.ps, rfl, ?_, oex_of a.1.1.1.2, by rw [fa]; exact of_decide_eq_true a.1.1.2, by rw [fa]; exact of_decide_eq_true a.1.2, of_decide_eq_true (a.2 f' (by simp)), bd, glo a.1.1.1.1.2⟩
        rw [c2]
        exact xini_ok (k := m) F' (fnScope_by c3) c4 c5 c6 c7 c8 c9
      · cases b4
    · cases b
end
end PB
end
section
set_option Elab.async false
set_option linter.all false
set_option maxRecDepth 100000
set_option maxHeartbeats 2000000
/-! PBH3: from one call depth to the next. -/
namespace PB
open PySem PySem.Spec PyProof.Rows L2
def stB (d : Df) : Bool := (match d.body with
  | [.Return (some (.List [.Call (.Name l _) [.Name s _] [] _, .Constant (.int 0) _ _, .Constant (.int 0) _ _, .Constant (.int 29) _ _] _)) _] => decide (l = Str.ofString "list") && decide (s = Str.ofString "script")
  | _ => false) && decide (d.ps = [Str.ofString "script"]) && fnScopeB [Str.ofString "script"] [Str.ofString "script"] d.scope && decide (d.scope.names.lookup ("script" : Str) = some .local) && decide (d.scope.names.lookup ("list" : Str) = some .globalImplicit)
def pkB (d : Df) : Bool := decide (d.ps = [Str.ofString "state", Str.ofString "many"]) && fnScopeB pickN [Str.ofString "state", Str.ofString "many"] d.scope && (pickN.all fun y => decide (d.scope.names.lookup y = some .local)) && decide (d.scope.names.lookup ("int" : Str) = some .globalImplicit) && decide (d.scope.names.lookup ("abs" : Str) = some .globalImplicit)
def lamQ (d : Df) : Str := d.qual ++ ".<locals>." ++ "<lambda>"
/-- the defs in which lambdas are made, by their names -/
def lamD (L : List Str) (ds : List Df) : List Df := ds.filter fun d => L.contains d.name
/-- what stands in the small language for each def; what is asked of it -/
def gB (L : List Str) (ds : List Df) (G : List (Fd × Bool)) : Bool := (G.zip ds).all fun p => (!p.1.2 || L.contains p.2.name) && (p.2.isTeller || match p.1.1 with
  | .fn _ n _ => decide (n ≠ 0)
  | _ => true)
theorem g_sv {τ : Tab} {L : List Str} {ds : List Df} {G : List (Fd × Bool)} (hG : ds.map (fdOf τ) = G) (h : gB L ds G = true) {d : Df} (hd : d ∈ ds) : ((fdOf τ d).2 = true → L.contains d.name = true) ∧ (d.isTeller = false → svB τ d = true) := by
  subst hG
  unfold gB at h
  have hm : (fdOf τ d, d) ∈ (ds.map (fdOf τ)).zip ds := by
    obtain ⟨i, hi, e⟩ := List.mem_iff_getElem.mp hd
    refine List.mem_iff_getElem.mpr ⟨i, by simp [hi], by simp [e]⟩
  have z := List.all_eq_true.mp h _ hm
  simp only [Bool.and_eq_true, Bool.or_eq_true, Bool.not_eq_true'] at z
  refine ⟨fun e => z.1.resolve_left (by rw [e]; simp), fun e => ?_⟩
  have z2 := z.2.resolve_left (by rw [e]; simp)
  cases hs : svB τ d with
  | true => rfl
  | false =>
    exfalso
    unfold svB at hs
    simp only [Bool.or_eq_false_iff, Option.isSome_eq_false_iff, Option.isNone_iff_eq_none] at hs
    obtain ⟨⟨⟨h1, h2⟩, h3⟩, h4⟩ := hs
    have e : fdOf τ d = (.fn 0 0 [], false) := by
      unfold fdOf
      rw [if_neg (by rw [h1]; simp), if_neg (by rw [h2]; simp), h3]
      simp only
      rw [h4]
    rw [e] at z2
    simp at z2
/-- the text is served -/
def txtB (ds : List Df) : Bool := ds.all fun d => d.isTeller || ((if d.cls.isNone && decide (d.name = startN) then stB d else if d.cls.isNone && decide (d.name = pickNm) then pkB d else fnScopeB d.all.N d.ps d.scope && decide (d.ps.length ≤ d.all.N.length) && (!d.isInit || decide (1 ≤ d.ps.length))))
/-- the tables of the lambdas differ -/
def tabsNeB (L : List Str) (ds : List Df) (K : PySem.W.Frag) : Bool := (lamD L ds).all fun d => (lamD L ds).all fun d' => !decide ((He.cT K d.at_).2 = (He.cT K d'.at_).2) || decide (lamQ d = lamQ d')
def tbsOf (L : List Str) (ds : List Df) (K : PySem.W.Frag) : List (Addr × Str) := (lamD L ds).map fun d => ((He.cT K d.at_).2, lamQ d)
section
variable {P : Program} {w : World} {K : PySem.W.Frag} {mg : Str → Option Value} {base h : Heap} {τ : Tab} {ds : List Df} {xs : List (Str × Df)} {Γ : List Fd} {L : List Str} {G : List (Fd × Bool)}
theorem tab_mute {A : Cad} {C : Orc} {lv : Nat} (t : TabW A C lv τ P w K mg base) : TabW A C lv τ.mute P w K mg base := fun X h1 h2 h3 h4 h5 => by
  have o := t X h1 h2 h3 h4 h5
  exact ⟨o.O, o.p1, o.p2, o.ty, o.bi, o.fn, o.mt, o.co, o.cl, o.fl, fun x t z => by simp [Tab.mute] at z, o.xc⟩
theorem lam_of {d : Df} {fd : FuncData} (F : d.fun_ K fd) (hd : d ∈ lamD L ds) (hne : tabsNeB L ds K = true) (TB : ∀ d ∈ lamD L ds, LamX.TabB base mg (He.cT K d.at_).1 (He.cT K d.at_).2) : LamW (cad K τ (tbsOf L ds K)) τ mg base d.scope (d.qual ++ ".<locals>.") fd.code := fun _ => by
  obtain ⟨oc, od, dV, kV, doc, pm, an, cdv, ct, osl, e, lk, hcd, _, _⟩ := F.ex
  obtain ⟨c, ec⟩ := He.codeIn_ref hcd
  have e1 : fd.code = .ref c := by rw [e]; exact ec
  have e2 : He.codeOf K d.at_ = c := He.codeOf_eq lk e1
  refine .inr ⟨(He.cT K d.at_).1, (He.cT K d.at_).2, by rw [e1]; simp only [He.cT, e2], TB d hd, List.mem_map.mpr ⟨d, hd, rfl⟩, fun p hp hq => ?_⟩
  obtain ⟨d', hd', e'⟩ := List.mem_map.mp hp
  subst e'
  unfold tabsNeB at hne
  have z := List.all_eq_true.mp (List.all_eq_true.mp hne d' hd') d hd
  simp only [Bool.or_eq_true, Bool.not_eq_true', decide_eq_false_iff_not, decide_eq_true_eq] at z
  exact z.resolve_left fun n => n hq
/-- one def, one call deeper -/
theorem none_ok {A : Cad} {C : Orc} {d : Df} {k m : Nat} (W : Wrt K mg h τ ds xs) (hd : d ∈ ds) (hC : ∀ ts dr, C k ts dr = none) : ∃ fd, d.fun_ K fd ∧ Binds K fd d.ps [] ∧ FnOk P w K mg base (L2.CX P w) m (He.fAd K d.at_) fd d.ps (spD A K C k d) ∧ (d.isInit = true → ∀ ts dr r d', C k ts dr = some (.ok r, d') → r.1 = true) := by
  obtain ⟨fd, F⟩ := W.fd d hd
  refine ⟨fd, F, Df.binds F (W.bd d hd), ?_, fun _ ts dr r d' z => (by rw [hC] at z; cases z)⟩
  unfold spD
  split
  · exact ⟨fun vs H Q E ⟨y, us, _, _, _, _, _, _, _, _, _, z, _⟩ => (by rw [hC] at z; cases z), fun A outer s H args us vs Q E _ _ _ _ ⟨y, us', _, _, _, _, _, _, _, _, _, z, _⟩ => (by rw [hC] at z; cases z)⟩
  · exact ⟨fun vs H Q E ⟨_, _, _, _, _, _, _, _, z, _⟩ => (by rw [hC] at z; cases z), fun A outer s H args us vs Q E _ _ _ _ ⟨_, _, _, _, _, _, _, _, z, _⟩ => (by rw [hC] at z; cases z)⟩
theorem defsS {pp : Nat → Pos} {n : Nat} (W : Wrt K mg h τ ds xs) (hΓ : ds.map (fdOf τ) = G) (hgb : gB L ds G = true) (ht : txtB ds = true) (hpk : ∀ d ∈ ds, d.cls = none → d.name = pickNm → d.body = pickB pp) (hpl : ((pp 26).endLine == (pp 28).line) = true) (hne : tabsNeB L ds K = true) (hmi : exB τ K = true)
    (TB : ∀ d ∈ lamD L ds, LamX.TabB base mg (He.cT K d.at_).1 (He.cT K d.at_).2) (tabs : ∀ m, m ≤ n → TabW (cad K τ (tbsOf L ds K)) (callN G m) (m + 1) τ P w K mg base) : DefsOk P w K mg base (cad K τ (tbsOf L ds K)) ds (callN G (n + 1)) (n + 2) := by
  intro k d hk hnt
  have hd : d ∈ ds := List.mem_of_getElem? hk
  have hG0 : G[k]? = some (fdOf τ d) := by rw [← hΓ]; simp [hk]
  by_cases hcost : costF (fdOf τ d) ≤ n
  case neg =>
    have hC : ∀ ts dr, callN G (n + 1) k ts dr = none := fun ts dr => by
      rw [callN_s, hG0]
      simp only
      rw [if_neg hcost]
    exact none_ok W hd hC
  obtain ⟨m, hm⟩ : ∃ m, n = m + costF (fdOf τ d) := ⟨n - costF (fdOf τ d), by omega⟩
  have tab := tabs m (by omega)
  clear hcost
  obtain ⟨fd, F⟩ := W.fd d hd
  have bd := Df.binds F (W.bd d hd)
  have fr : ∀ x ∈ bNames, mg x = none := fun x hx => by
    have ex := W.ex
    unfold exB at ex
    simp only [Bool.and_eq_true, List.all_eq_true] at ex
    exact He.free_ok W.kx W.g (ex.1.1.1.1.1.1.1 x hx)
  have tx := List.all_eq_true.mp ht d hd
  simp only [hnt, Bool.false_or] at tx
  obtain ⟨gl, gs⟩ := g_sv hΓ hgb hd
  have S := sv_of (gs hnt)
  refine ⟨fd, F, bd, ?_⟩
  rw [show d.fun_ K fd = FunD K d.name d.qual d.args d.body d.scope [] [] (He.fAd K d.at_) fd from rfl] at F
  obtain ⟨q, b2, hq⟩ : ∃ q b2, fdOf τ d = (q, b2) := ⟨_, _, rfl⟩
  have hb2 : (fdOf τ d).2 = b2 := by rw [hq]
  rw [hq] at S hG0 hm
  subst hm
  cases S with
  | start hc e =>
    rw [if_pos (by simp [hc, e])] at tx
    unfold stB at tx
    simp only [Bool.and_eq_true, decide_eq_true_eq] at tx
    obtain ⟨⟨⟨⟨t1, t2⟩, t3⟩, t4⟩, t5⟩ := tx
    split at t1
    · rename_i l p1 s p2 p3 k1 p4 k2 p5 k3 p6 p7 p8 hbody
      simp only [Bool.and_eq_true, decide_eq_true_eq] at t1
      obtain ⟨rfl, rfl⟩ := t1
      rw [hbody] at F
      have hi : d.isInit = false := by simp [Df.isInit, hc]
      refine ⟨?_, fun z => by rw [hi] at z; cases z⟩
      unfold spD
      rw [if_neg (by simp [hi]), if_neg (by simp [hi]), t2]
      have hb : b2 = false := by
        unfold fdOf at hq
        rw [if_pos (by simp [hc, e])] at hq
        cases hq
        rfl
      subst hb
      exact start_ok (k := m + 2) F (fnScope_by t3) t4 t5 (fr _ (by simp [bNames])) hG0
    · cases t1
  | pick hc e =>
    have nst : ¬ d.name = startN := by rw [e]; decide
    rw [if_neg (by simp [nst]), if_pos (by simp [hc, e])] at tx
    unfold pkB at tx
    simp only [Bool.and_eq_true, decide_eq_true_eq, List.all_eq_true] at tx
    obtain ⟨⟨⟨⟨t1, t2⟩, t3⟩, t4⟩, t5⟩ := tx
    rw [hpk d hd hc e] at F
    have hi : d.isInit = false := by simp [Df.isInit, hc]
    refine ⟨?_, fun z => by rw [hi] at z; cases z⟩
    unfold spD
    rw [if_neg (by simp [hi]), if_neg (by simp [hi]), t1]
    have hb : b2 = false := by
      unfold fdOf at hq
      rw [if_neg (by simp [nst]), if_pos (by simp [hc, e])] at hq
      cases hq
      rfl
    subst hb
    exact pick_ok (k := m + 1) F (fnScope_by t2) t3 t4 t5 (fr _ (by simp [bNames])) (fr _ (by simp [bNames])) hpl hG0
  | @fn b ir htr hb hi =>
    refine ⟨?_, fun z => by rw [hi] at z; cases z⟩
    have nn : ¬ (d.cls.isNone && decide (d.name = startN)) = true ∧ ¬ (d.cls.isNone && decide (d.name = pickNm)) = true := by
      refine ⟨fun z => ?_, fun z => ?_⟩
      · unfold fdOf at hq; rw [if_pos z] at hq; cases hq
      · unfold fdOf at hq
        split at hq
        · cases hq
        · first | (rw [if_pos z] at hq; cases hq) | cases hq
    rw [if_neg nn.1, if_neg nn.2] at tx
    simp only [Bool.and_eq_true, decide_eq_true_eq] at tx
    unfold spD
    rw [if_neg (by simp [hi]), if_neg (by simp [hi])]
    cases b with
    | false => exact def_ok F (fnScope_by tx.1.1) tx.1.2 hG0 htr (tab_mute tab) (fun _ => .inl rfl) (by omega) (.inl rfl)
    | true =>
      have h2 := hb rfl
      rw [hb2] at h2
      subst h2
      exact def_ok F (fnScope_by tx.1.1) tx.1.2 hG0 htr tab (lam_of F (List.mem_filter.mpr ⟨hd, gl (hb rfl)⟩) hne TB) (by omega) (.inr (by show m + 1 + 3 ≤ m + 2 + 2; omega))
  | @init b ir c htr hb hi hc =>
    have nn : ¬ (d.cls.isNone && decide (d.name = startN)) = true ∧ ¬ (d.cls.isNone && decide (d.name = pickNm)) = true := by simp [hc]
    rw [if_neg nn.1, if_neg nn.2] at tx
    simp only [Bool.and_eq_true, decide_eq_true_eq, Bool.or_eq_true, Bool.not_eq_true', hi] at tx
    have hl : 1 ≤ d.ps.length := tx.2.resolve_left (by simp)
    refine ⟨?_, fun _ ts dr r d' z => ?_⟩
    · unfold spD
      rw [if_pos hi, if_pos hi, hc]
      cases b with
      | false => exact ini_ok F (fnScope_by tx.1.1) tx.1.2 (by omega) hG0 htr (tab_mute tab) (fun _ => .inl rfl) (by cases b2 <;> simp only [costF] <;> omega) (.inl rfl)
      | true =>
        have h2 := hb rfl
        rw [hb2] at h2
        subst h2
        exact ini_ok F (fnScope_by tx.1.1) tx.1.2 (by omega) hG0 htr tab (lam_of F (List.mem_filter.mpr ⟨hd, gl (hb rfl)⟩) hne TB) (by show m + 1 + 1 ≤ m + 3 + 1; omega) (.inr (by show m + 1 + 3 ≤ m + 3 + 1; omega))
    · rw [callN_at hG0] at z
      simp only [runF] at z
      split at z
      · split at z
        · split at z
          · cases z; rfl
          · cases z
        · cases z
        · cases z
      · cases z
theorem defs_all {pp : Nat → Pos} (W : Wrt K mg h τ ds xs) (hΓ : ds.map (fdOf τ) = G) (hgb : gB L ds G = true) (ht : txtB ds = true) (hpk : ∀ d ∈ ds, d.cls = none → d.name = pickNm → d.body = pickB pp) (hpl : ((pp 26).endLine == (pp 28).line) = true) (hne : tabsNeB L ds K = true)
    (TB : ∀ d ∈ lamD L ds, LamX.TabB base mg (He.cT K d.at_).1 (He.cT K d.at_).2) (n : Nat) : DefsOk P w K mg base (cad K τ (tbsOf L ds K)) ds (callN G n) (n + 1) := by
  induction n using Nat.strongRecOn with
  | ind n ih =>
    cases n with
    | zero => exact defs0 W 1
    | succ n => exact defsS (P := P) (w := w) (n := n) W hΓ hgb ht hpk hpl hne W.ex TB fun m hm => tab_of W (ih m (by omega))
end
end PB
end
section
set_option Elab.async false
set_option linter.all false
set_option maxRecDepth 100000
set_option maxHeartbeats 2000000
/-! PBH4: the law at the head. -/
namespace PB
open PySem PySem.Spec PyProof.Rows L2
def exAll (τ : Tab) (L : List Str) (ds : List Df) (K : PySem.W.Frag) : Bool := exB τ K && tabsNeB L ds K
def allD (ds : List Df) (xs : List (Str × Df)) : List He.DefD := (ds ++ xs.map (·.2)).map Df.defD
def tfOf (L : List Str) (ds : List Df) : List He.Defn := (lamD L ds).map Df.at_
/-- what is checked of a law's text once -/
structure Txt (τ : Tab) (ds : List Df) (xs : List (Str × Df)) (L : List Str) (G : List (Fd × Bool)) (pp : Nat → Pos) (kl : Nat) (dl : Df) : Prop where
  hG : ds.map (fdOf τ) = G
  gb : gB L ds G = true
  tx : txtB ds = true
  ln : linkB τ ds xs = true
  pk : ∀ d ∈ ds, d.cls = none → d.name = pickNm → d.body = pickB pp
  pl : ((pp 26).endLine == (pp 28).line) = true
  bd : ∀ d ∈ ds, d.bind
  bx : ∀ p ∈ xs, p.2.bind
  at_ : ds[kl]? = some dl
  cl : dl.cls = none
  nm : dl.name = Str.ofString "law"
  ps : dl.ps = [Str.ofString "script"]
  nt : dl.isTeller = false
  fn : τ.fn.lookup (Str.ofString "law") = some (kl, 1)
  nc : τ.cl.contains (Str.ofString "law") = false
section
variable {τ : Tab} {ds : List Df} {xs : List (Str × Df)} {L : List Str} {G : List (Fd × Bool)} {pp : Nat → Pos} {kl : Nat} {dl : Df}
theorem fz_ints {A : Cad} {W : Wd} : ∀ ns : List Int, FzL A W (ns.map T.int) (ns.map V.int)
  | [] => by simp only [List.map_nil, FzL]
  | x :: xs => by
    simp only [List.map_cons, FzL, Fz, true_and]
    exact fz_ints xs
theorem law_at {l : PySem.W.OpenLaw} {w : World} {K : PySem.W.Frag} {mg : Str → Option Value} {h : Heap} {fa : Addr} (X : Txt τ ds xs L G pp kl dl) (KX : K.In h) (hg : h.Ns mainGlobals mg) (hmg : mg (Str.ofString "law") = some (.ref fa))
    (c : He.SaysX [] (allD ds xs) [] (tfOf L ds) (exAll τ L ds) w h K) {n N : Nat} (hn : n ≤ 63)
    (main : ∀ (ns : List Int) (t : T), ns.length ≤ n → (t = .scr ns ∨ t = .lst (ns.map .int)) → ∃ d', callN G N kl [t] none = some (.ok (false, .bl true), d')) :
    LamX.LawAtS l w K (L2.CX l.prog w) (N + 2) n "script" mg fa h := by
  have ex := c.more
  unfold exAll at ex
  simp only [Bool.and_eq_true] at ex
  have fd : ∀ d ∈ ds ++ xs.map (·.2), ∃ fd, d.fun_ K fd := fun d hd => He.SaysD.defs c.t.d (d := d.defD) (List.mem_map.mpr ⟨d, hd, rfl⟩)
  have W : Wrt K mg h τ ds xs := ⟨KX, hg, ex.1, X.ln, fun d hd => fd d (List.mem_append_left _ hd), fun p hp => fd p.2 (List.mem_append_right _ (List.mem_map.mpr ⟨p, hp, rfl⟩)), X.bd, X.bx⟩
  have hdl : dl ∈ ds := List.mem_of_getElem? X.at_
  obtain ⟨fdl, Fl⟩ := W.fd dl hdl
  have hat : dl.at_ = (Str.ofString "law", none) := by simp only [Df.at_, X.cl, X.nm]
  have hfa : He.fAd K dl.at_ = fa := by
    have e5 := ex.1
    unfold exB at e5
    simp only [Bool.and_eq_true, List.all_eq_true] at e5
    have z := e5.1.1.1.2 _ (lk_mem X.fn)
    have z2 := z.2
    rw [if_neg (by show ¬ τ.cl.contains (Str.ofString "law") = true; rw [X.nc]; simp)] at z2
    have y := He.glo_ok KX hg z2
    rw [hmg] at y
    injection y with y
    injection y with y
    rw [hat, y]
    rfl
  have hi : dl.isInit = false := by simp [Df.isInit, X.cl]
  let cs : List (Addr × Addr) := (tfOf L ds).map (He.cT K)
  have memc : ∀ p ∈ cs, ∃ q ∈ tfOf L ds, He.cT K q = p := fun p hp => List.mem_map.mp hp
  refine ⟨fdl, cs, spB (cad K τ (tbsOf L ds K)) K (callN G N kl) 1, fun p hp => ?_, fun p hp => ?_, fun p hp => ?_, fun s u => ?_, fun H a ns hlen hbits hT hS => ?_, fun base KB hgb TBp => ?_⟩
  · obtain ⟨q, hq, e⟩ := memc p hp
    rw [← e]
    exact c.empty q hq
  · obtain ⟨q, hq, e⟩ := memc p hp
    rw [← e]
    exact c.out q hq
  · obtain ⟨q, hq, e⟩ := memc p hp
    rw [← e]
    exact PySem.W.codeHd_of_K KX (c.hd q hq)
  · have z := FunD.bindsA (ps := dl.ps) Fl (W.bd dl hdl) s [u] (by rw [X.ps]; rfl)
    rw [X.ps] at z
    exact z
  · -- the promise asked
    have tabs : LamX.Tabs (tbsOf L ds K) H := fun p hp => by
      obtain ⟨d, hd, e⟩ := List.mem_map.mp hp
      rw [← e]
      exact LamX.TabS.nil (hT (He.cT K d.at_) (List.mem_map.mpr ⟨d.at_, List.mem_map.mpr ⟨d, hd, rfl⟩, rfl⟩))
    have fin : ∀ (W0 : Wd) (t : T), EnvOk (cad K τ (tbsOf L ds K)) K W0 H [] ⟨[], none⟩ → Fz (cad K τ (tbsOf L ds K)) W0 t (.ref a) → (t = .scr ns ∨ t = .lst (ns.map .int)) → spB (cad K τ (tbsOf L ds K)) K (callN G N kl) 1 [.ref a] H (fun v _ => v = .bl true) fun _ _ _ => False := fun W0 t E f ht => by
      obtain ⟨d', hd'⟩ := main ns t hlen ht
      refine ⟨rfl, W0, [t], none, _, d', E, by simp only [FzL, and_true]; exact f, hd', fun W' H' E' S' v rv => ?_⟩
      have rv : Fz (cad K τ (tbsOf L ds K)) W' (.bl true) v := rv
      simpa only [Fz] using rv
    have env : ∀ (W0 : Wd), (∀ a o, W0.G a = some o → H a = some o) → W0.dr = none → ScOk (cad K τ (tbsOf L ds K)) K W0 H → EnvOk (cad K τ (tbsOf L ds K)) K W0 H [] ⟨[], none⟩ := fun W0 hG hd hs =>
      ⟨fun a o g => .inl (hG a o g), by unfold DrOk; rw [hd]; trivial, hs, rfl, fun i r z => by simp at z, fun i j p z => (noOwn z).elim, fun i p z => (noOwn z).elim⟩
    have l63 : ns.length ≤ 63 := by omega
    rcases hS with (hS | ⟨o, hS⟩) | hS
    · refine fin ⟨fun b => if b = a then some (.lst (ns.map V.int)) else none, tbsOf L ds K, fun b o g => ?_, none, a, none⟩ (.lst (ns.map .int)) (env _ (fun b o g => ?_) rfl ⟨⟨⟨by simp, rfl⟩, tabs⟩, .inr (.inr rfl)⟩) ?_ (.inr rfl)
      · split at g
        · cases g; rfl
        · cases g
      · simp only at g
        split at g
        · rename_i e
          rw [e, hS]
          exact g
        · cases g
      · simp only [Fz]
        refine ⟨a, ns.map V.int, rfl, by simp, ?_⟩
        exact fz_ints ns
    · exact fin ⟨fun _ => none, tbsOf L ds K, (fun b o g => by cases g), none, a, some ns⟩ (.scr ns) (env _ (fun b o g => by cases g) rfl ⟨⟨⟨l63, rfl⟩, tabs⟩, .inl ⟨o, hS⟩⟩) (by simp only [Fz]; exact ⟨trivial, trivial⟩) (.inl rfl)
    · exact fin ⟨fun _ => none, tbsOf L ds K, (fun b o g => by cases g), none, a, some ns⟩ (.scr ns) (env _ (fun b o g => by cases g) rfl ⟨⟨⟨l63, rfl⟩, tabs⟩, .inr (.inl hS)⟩) (by simp only [Fz]; exact ⟨trivial, trivial⟩) (.inl rfl)
  · have D := defs_all (P := l.prog) (w := w) (base := base) W X.hG X.gb X.tx X.pk X.pl ex.2 (fun d hd => TBp (He.cT K d.at_) (List.mem_map.mpr ⟨d.at_, List.mem_map.mpr ⟨d, hd, rfl⟩, rfl⟩)) N
    obtain ⟨fd2, F2, _, ok, _⟩ := D kl dl X.at_ X.nt
    have e : fd2 = fdl := by
      obtain ⟨oc, od, dV, kV, doc, pm, an, cdv, ct, osl, _, lk, _⟩ := Fl.ex
      obtain ⟨oc2, od2, dV2, kV2, doc2, pm2, an2, cdv2, ct2, osl2, _, lk2, _⟩ := F2.ex
      rw [lk] at lk2
      simp only [Option.some.injEq, Obj.mk.injEq, Data.func.injEq] at lk2
      exact lk2.2.2.1.symm
    subst e
    rw [hfa] at ok
    unfold spD at ok
    rw [if_neg (by simp [hi]), if_neg (by simp [hi]), X.ps] at ok
    exact ok
end
end PB
end
section
set_option Elab.async false
set_option linter.all false
set_option maxRecDepth 100000
/-! PBH5: small helps of the heads. -/
namespace PB
open PySem PySem.Spec PyProof.Rows L2
abbrev BindE (d : Df) (us : List Value) : Prop := ∀ (kV doc pm : Value) (an : Option Addr) (cdv ct : Value), bindArgs (PySem.W.fnOf d.name d.qual d.args d.body d.scope .none kV doc pm an cdv ct) ⟨us, []⟩ = pure (d.ps.zip us)
theorem bind0 {d : Df} (h : d.ps.length = 0) (b : BindE d []) : d.bind := fun kV doc pm an cdv ct us hl => match us, hl.trans h with
  | [], _ => b kV doc pm an cdv ct
theorem bind1 {d : Df} (h : d.ps.length = 1) (b : ∀ kV doc pm an cdv ct u0, bindArgs (PySem.W.fnOf d.name d.qual d.args d.body d.scope .none kV doc pm an cdv ct) ⟨[u0], []⟩ = pure (d.ps.zip [u0])) : d.bind := fun kV doc pm an cdv ct us hl => match us, hl.trans h with
  | [u0], _ => b kV doc pm an cdv ct u0
theorem bind2 {d : Df} (h : d.ps.length = 2) (b : ∀ kV doc pm an cdv ct u0 u1, bindArgs (PySem.W.fnOf d.name d.qual d.args d.body d.scope .none kV doc pm an cdv ct) ⟨[u0, u1], []⟩ = pure (d.ps.zip [u0, u1])) : d.bind := fun kV doc pm an cdv ct us hl => match us, hl.trans h with
  | [u0, u1], _ => b kV doc pm an cdv ct u0 u1
theorem bind3 {d : Df} (h : d.ps.length = 3) (b : ∀ kV doc pm an cdv ct u0 u1 u2, bindArgs (PySem.W.fnOf d.name d.qual d.args d.body d.scope .none kV doc pm an cdv ct) ⟨[u0, u1, u2], []⟩ = pure (d.ps.zip [u0, u1, u2])) : d.bind := fun kV doc pm an cdv ct us hl => match us, hl.trans h with
  | [u0, u1, u2], _ => b kV doc pm an cdv ct u0 u1 u2
theorem bind4 {d : Df} (h : d.ps.length = 4) (b : ∀ kV doc pm an cdv ct u0 u1 u2 u3, bindArgs (PySem.W.fnOf d.name d.qual d.args d.body d.scope .none kV doc pm an cdv ct) ⟨[u0, u1, u2, u3], []⟩ = pure (d.ps.zip [u0, u1, u2, u3])) : d.bind := fun kV doc pm an cdv ct us hl => match us, hl.trans h with
  | [u0, u1, u2, u3], _ => b kV doc pm an cdv ct u0 u1 u2 u3
theorem bind5 {d : Df} (h : d.ps.length = 5) (b : ∀ kV doc pm an cdv ct u0 u1 u2 u3 u4, bindArgs (PySem.W.fnOf d.name d.qual d.args d.body d.scope .none kV doc pm an cdv ct) ⟨[u0, u1, u2, u3, u4], []⟩ = pure (d.ps.zip [u0, u1, u2, u3, u4])) : d.bind := fun kV doc pm an cdv ct us hl => match us, hl.trans h with
  | [u0, u1, u2, u3, u4], _ => b kV doc pm an cdv ct u0 u1 u2 u3 u4
theorem bind6 {d : Df} (h : d.ps.length = 6) (b : ∀ kV doc pm an cdv ct u0 u1 u2 u3 u4 u5, bindArgs (PySem.W.fnOf d.name d.qual d.args d.body d.scope .none kV doc pm an cdv ct) ⟨[u0, u1, u2, u3, u4, u5], []⟩ = pure (d.ps.zip [u0, u1, u2, u3, u4, u5])) : d.bind := fun kV doc pm an cdv ct us hl => match us, hl.trans h with
  | [u0, u1, u2, u3, u4, u5], _ => b kV doc pm an cdv ct u0 u1 u2 u3 u4 u5
def AllB : List Df → Prop
  | [] => True
  | d :: ds => d.bind ∧ AllB ds
theorem allB : ∀ {ds : List Df}, AllB ds → ∀ d ∈ ds, d.bind
  | [], _, _, h => nomatch h
  | d :: ds, h, x, hx => by
    rcases List.mem_cons.mp hx with e | e
    · rw [e]; exact h.1
    · exact allB h.2 x e
def AllX : List (Str × Df) → Prop
  | [] => True
  | d :: ds => d.2.bind ∧ AllX ds
theorem allX : ∀ {ds : List (Str × Df)}, AllX ds → ∀ d ∈ ds, d.2.bind
  | [], _, _, h => nomatch h
  | d :: ds, h, x, hx => by
    rcases List.mem_cons.mp hx with e | e
    · rw [e]; exact h.1
    · exact allX h.2 x e
theorem pk_of {ds : List Df} {pp : Nat → Pos} {k : Nat} {d0 : Df} (h : (ds.zipIdx.all fun p => !(p.1.cls.isNone && decide (p.1.name = pickNm)) || decide (p.2 = k)) = true) (e : ds[k]? = some d0) (hb : d0.body = pickB pp) : ∀ d ∈ ds, d.cls = none → d.name = pickNm → d.body = pickB pp := fun d hd h1 h2 => by
  obtain ⟨i, hi, e1⟩ := List.mem_iff_getElem.mp hd
  have hm : (d, i) ∈ ds.zipIdx := List.mem_iff_getElem.mpr ⟨i, by simpa using hi, by simp [e1]⟩
  have z := List.all_eq_true.mp h _ hm
  simp only [h1, h2, Option.isNone_none, decide_true, Bool.and_self, Bool.not_true, Bool.false_or, decide_eq_true_eq] at z
  subst z
  rw [List.getElem?_eq_getElem hi, e1] at e
  cases e
  exact hb
theorem no_cx {P : Program} {w : World} {H : Hp} {s : Shared} {e : Value} {s' : Shared} (z : L2.CX P w [] H s (fun _ _ _ => False) e s') : False := by
  obtain ⟨_, _, _, _, _, _, _, _, _, _, _, _, z⟩ := z
  exact z.elim
end PB
end
section
set_option Elab.async false
set_option linter.all false
set_option maxRecDepth 100000
/-! PBH6: the written part's objects gathered level by level, a bit for each that is seen; the Hook over them. -/
namespace PB
open PySem PySem.Spec PyProof.Rows L2
section
variable {α : Type}
def addBits : List Addr → Nat → List Addr → (Nat → List Addr → α) → α
  | [], m, acc, k => k m acc
  | a :: r, m, acc, k => match Nat.ble 1 (Nat.land (Nat.shiftRight m a) 1) with
    | true => addBits r m acc k
    | false => addBits r (Nat.lor m (Nat.shiftLeft 1 a)) (a :: acc) k
def nextBits (g : Addr → Option Obj) : List Addr → Nat → List Addr → (Nat → List Addr → α) → α
  | [], m, acc, k => k m acc
  | a :: r, m, acc, k => match g a with
    | some o => addBits (He.refsD o) m acc fun m acc => nextBits g r m acc k
    | none => nextBits g r m acc k
end
def levBits (g : Addr → Option Obj) : Nat → List Addr → Nat → List Addr → List Addr
  | 0, cur, _, all => cur ++ all
  | n + 1, cur, m, all => nextBits g cur m [] fun m nxt => levBits g n nxt m (cur ++ all)
def asB (n : Nat) (g : Addr → Option Obj) : List Addr := levBits g n [mainGlobals] (Nat.shiftLeft 1 mainGlobals) []
/-- what K tells of the defs, one by one; what is wanted -/
def fnWs (K : PySem.W.Frag) : List He.DefD → List He.FnW
  | [] => []
  | d :: r => He.fnW K d.at_ :: fnWs K r
def valsW : List He.DefD → List He.FnW
  | [] => []
  | d :: r => d.val :: valsW r
theorem fnWs_eq (K : PySem.W.Frag) : ∀ fn : List He.DefD, fnWs K fn = fn.map fun d => He.fnW K d.at_
  | [] => rfl
  | d :: r => by rw [fnWs, fnWs_eq K r]; rfl
theorem valsW_eq : ∀ fn : List He.DefD, valsW fn = fn.map He.DefD.val
  | [] => rfl
  | d :: r => by rw [valsW, valsW_eq r]; rfl
section
variable {as : (Addr → Option Obj) → List Addr} {fn : List He.DefD} {tf : List He.Defn} {ex : PySem.W.Frag → Bool}
abbrev AlA : Type := Bool × List He.FnW
def obsK (fn : List He.DefD) (tf : List He.Defn) (ex : PySem.W.Frag → Bool) (g : Addr → Option Obj) (K : PySem.W.Frag) : AlA := ((fn.all fun d => d.ok K) && (ex K && He.tabsB g tf K), fnWs K fn)
def obsA (as : (Addr → Option Obj) → List Addr) (fn : List He.DefD) (tf : List He.Defn) (ex : PySem.W.Frag → Bool) (g : Addr → Option Obj) : AlA := obsK fn tf ex g (He.frT g (as g))
def valA (fn : List He.DefD) : AlA := (true, valsW fn)
theorem and2 {a b : Bool} (h : (a && b) = true) : a = true ∧ b = true := by simpa using h
theorem saysA_of {w : World} {h : Heap} (e : obsA as fn tf ex h.get? = valA fn) : He.SaysX [] fn [] tf ex w h (He.frT h.get? (as h.get?)) := by
  unfold obsA at e
  generalize hK : He.frT h.get? (as h.get?) = K at e
  have e1 : fnWs K fn = valsW fn := congrArg (fun z : AlA => z.2) e
  have e2 : ((fn.all fun d => d.ok K) && (ex K && He.tabsB h.get? tf K)) = true := congrArg (fun z : AlA => z.1) e
  obtain ⟨h0, h12⟩ := and2 e2
  obtain ⟨h1, h2⟩ := and2 h12
  have et : He.obsT [] fn [] K = He.valT fn [] w := by
    rw [fnWs_eq, valsW_eq] at e1
    show (((([] : List He.Fa).all fun f => f.ok K) && fn.all fun d => d.ok K, fn.map fun d => He.fnW K d.at_), _) = ((true, fn.map He.DefD.val), _)
    rw [e1, h0]
    rfl
  have key : ∀ p ∈ tf, PySem.W.codeHdIn K (He.cT K p).1 (He.cT K p).2 = true ∧ ∃ o, h.get? (He.cT K p).2 = some o ∧ He.emptyTab o = true := fun p hp => by
    obtain ⟨h3, h4⟩ := and2 (List.all_eq_true.mp h2 p hp)
    refine ⟨h3, ?_⟩
    cases q : h.get? (He.cT K p).2 with
    | none => rw [q] at h4; cases h4
    | some o => rw [q] at h4; exact ⟨o, rfl, h4⟩
  refine ⟨et, h1, fun p hp => (key p hp).1, fun p hp => ?_, fun p hp => ?_⟩
  · obtain ⟨_, o, q, z⟩ := key p hp
    have := He.frT_none (as := as h.get?) q z
    rwa [hK] at this
  · obtain ⟨_, o, q, z⟩ := key p hp
    rw [q, He.emptyTab_eq z]
def hookA (as : (Addr → Option Obj) → List Addr) (fn : List He.DefD) (tf : List He.Defn) (ex : PySem.W.Frag → Bool) : PySem.W.Hook where
  α := AlA
  obs := fun s => obsA as fn tf ex s.heap.get?
  val := fun _ => valA fn
  says := fun w h => ∃ K : PySem.W.Frag, K.In h ∧ He.SaysX [] fn [] tf ex w h K
  of := fun _ _ e => ⟨_, He.frT_in, saysA_of e⟩
  keeps := fun _ _ _ ⟨K, hK, c⟩ k => ⟨K, PySem.W.Frag.In.keeps hK k, ⟨c.t, c.more, c.hd, c.out, fun p hp => k _ _ (c.empty p hp)⟩⟩
theorem obsA_eq {g : Addr → Option Obj} {s : Shared} (h : ∀ a, g a = s.heap.get? a) : obsA as fn tf ex g = (hookA as fn tf ex).obs s := by
  have e : g = s.heap.get? := funext h
  rw [e] <;> rfl
end
/-- the run's facts, found one by one -/
theorem run_join {σ β γ : Type} {E : Option σ} {p b d : σ → Bool} {q : σ → β} {c : σ → γ} {x : Bool} {y : β} {v : γ} (hA : E.map (fun s => (p s, q s)) = some (x, y)) (hB : E.map b = some true) (hC : E.map c = some v) (hD : E.map d = some true) :
    E.map (fun s => (p s, q s, (b s && d s, c s))) = some (x, y, (true, v)) := by
  cases E with
  | none => cases hA
  | some s =>
    simp only [Option.map_some, Option.some.injEq, Prod.mk.injEq] at hA hB hC hD ⊢
    exact ⟨hA.1, hA.2, by rw [hB, hD]; rfl, hC⟩
end PB
end
section
set_option Elab.async false
set_option linter.all false
set_option maxRecDepth 100000
set_option maxHeartbeats 0
namespace PB
namespace Law
open PySem PySem.Spec PyProof.Rows L2
/-! the text of this law, in the small language -/
abbrev S (x : String) : PySem.Str := PySem.Str.ofString x
def top : List PySem.Stmt := PySem.Challenge.pw_pressrecord_k10_lots_and_clear_presses.main.body
def ds : List Df := dfs top
def xs : List (PySem.Str × Df) := xdfs top
def τ : Tab := tabOf top (tellers top)
def lams : List PySem.Str := [S "_law_refused_right"]
def ppl0 : List PySem.Pos := [⟨223,4,223,9⟩, ⟨223,10,223,11⟩, ⟨223,4,223,12⟩, ⟨223,15,223,20⟩, ⟨223,21,223,22⟩, ⟨223,15,223,23⟩, ⟨223,26,223,27⟩, ⟨223,15,223,27⟩, ⟨223,4,223,27⟩, ⟨224,10,224,15⟩, ⟨224,16,224,17⟩, ⟨224,10,224,18⟩, ⟨224,22,224,23⟩, ⟨224,10,224,23⟩, ⟨224,28,224,33⟩, ⟨224,34,224,35⟩, ⟨224,28,224,36⟩, ⟨224,40,224,42⟩, ⟨224,28,224,42⟩, ⟨224,10,224,42⟩, ⟨225,8,225,12⟩, ⟨225,15,225,18⟩, ⟨225,19,225,24⟩, ⟨225,25,225,26⟩, ⟨225,19,225,27⟩]
def ppl1 : List PySem.Pos := [⟨225,19,225,31⟩, ⟨225,32,225,33⟩, ⟨225,19,225,34⟩, ⟨225,15,225,35⟩, ⟨225,8,225,35⟩, ⟨226,8,226,13⟩, ⟨226,14,226,15⟩, ⟨226,8,226,16⟩, ⟨226,19,226,22⟩, ⟨226,23,226,28⟩, ⟨226,29,226,30⟩, ⟨226,23,226,31⟩, ⟨226,34,226,38⟩, ⟨226,23,226,38⟩, ⟨226,41,226,45⟩, ⟨226,23,226,45⟩, ⟨226,48,226,49⟩, ⟨226,23,226,49⟩, ⟨226,19,226,50⟩, ⟨226,53,226,63⟩, ⟨226,19,226,63⟩, ⟨226,8,226,63⟩, ⟨227,8,227,13⟩, ⟨227,14,227,15⟩, ⟨227,8,227,16⟩]
def ppl2 : List PySem.Pos := [⟨227,27,227,31⟩, ⟨227,35,227,37⟩, ⟨227,41,227,43⟩, ⟨227,35,227,43⟩, ⟨227,27,227,43⟩, ⟨227,19,227,23⟩, ⟨227,49,227,50⟩, ⟨227,19,227,50⟩, ⟨227,8,227,50⟩, ⟨224,4,227,50⟩, ⟨228,7,228,12⟩, ⟨228,13,228,14⟩, ⟨228,7,228,15⟩, ⟨228,18,228,19⟩, ⟨228,7,228,19⟩, ⟨229,8,229,13⟩, ⟨229,16,229,19⟩, ⟨229,20,229,25⟩, ⟨229,26,229,27⟩, ⟨229,20,229,28⟩, ⟨229,16,229,29⟩, ⟨229,32,229,36⟩, ⟨229,16,229,36⟩, ⟨229,8,229,36⟩, ⟨230,8,230,13⟩]
def ppl3 : List PySem.Pos := [⟨230,14,230,15⟩, ⟨230,8,230,16⟩, ⟨230,19,230,24⟩, ⟨230,25,230,26⟩, ⟨230,19,230,27⟩, ⟨230,31,230,35⟩, ⟨230,19,230,35⟩, ⟨230,8,230,35⟩, ⟨231,15,231,20⟩, ⟨231,8,231,20⟩, ⟨228,4,231,20⟩, ⟨232,4,232,9⟩, ⟨232,12,232,15⟩, ⟨232,17,232,22⟩, ⟨232,23,232,24⟩, ⟨232,17,232,25⟩, ⟨232,28,232,32⟩, ⟨232,35,232,40⟩, ⟨232,41,232,42⟩, ⟨232,35,232,43⟩, ⟨232,28,232,43⟩, ⟨232,17,232,43⟩, ⟨232,46,232,52⟩, ⟨232,17,232,52⟩, ⟨232,57,232,58⟩]
def ppl4 : List PySem.Pos := [⟨232,16,232,58⟩, ⟨232,12,232,59⟩, ⟨232,62,232,72⟩, ⟨232,12,232,72⟩, ⟨232,4,232,72⟩, ⟨233,11,233,14⟩, ⟨233,16,233,21⟩, ⟨233,24,233,29⟩, ⟨233,16,233,29⟩, ⟨233,32,233,37⟩, ⟨233,40,233,45⟩, ⟨233,46,233,47⟩, ⟨233,40,233,48⟩, ⟨233,32,233,48⟩, ⟨233,16,233,48⟩, ⟨233,51,233,53⟩, ⟨233,16,233,53⟩, ⟨233,58,233,59⟩, ⟨233,15,233,59⟩, ⟨233,11,233,60⟩, ⟨233,63,233,73⟩, ⟨233,11,233,73⟩, ⟨233,76,233,80⟩, ⟨233,11,233,80⟩, ⟨233,4,233,80⟩]
def pp (i : Nat) : PySem.Pos := (ppl0 ++ ppl1 ++ ppl2 ++ ppl3 ++ ppl4).getD (i - 1) ⟨0, 0, 0, 0⟩
/-- is_list -/
@[simp] def b0 : List St := [(.ret (.isi (.var 0) [(.ty "list"), (.ty "tuple")]))]
/-- is_row -/
@[simp] def b1 : List St := [(.ret (.and [(.call 0 [(.var 0)]), (.cmp .eq (.p1 .len (.var 0)) (.var 1))]))]
/-- is_text -/
@[simp] def b2 : List St := [(.ret (.isi (.var 0) [(.ty "str")]))]
/-- is_letters -/
abbrev b3c1 : Ex := .comp (.cmp .inn (.var 2) (.con (.str (S "abcdefghijklmnopqrstuvwxyz")))) [1, 2] (.nm 2) (.seq (.var 0)) []
@[simp] def b3 : List St := [(.ret (.and [(.call 2 [(.var 0)]), (.cmp .gt (.p1 .len (.var 0)) (.con (.int 0))), (.p1 .all b3c1)]))]
/-- is_word -/
@[simp] def b4 : List St := [(.ret (.and [(.call 3 [(.var 0)]), (.cmp .le (.p1 .len (.var 0)) (.con (.int 8)))]))]
/-- wrong_names -/
abbrev b5b1 : List St := [(.ife (.or [(.not (.call 4 [(.var 2)])), (.cmp .inn (.var 2) (.p1 .list (.sl (.var 0) none (some (.var 1)))))]) [(.ret (.var 1))] [])]
abbrev b5f1 : St := .for (.tp [(.nm 1), (.nm 2)]) (.enum (.var 0)) b5b1
@[simp] def b5 : List St := [(.ife (.or [(.not (.call 0 [(.var 0)])), (.cmp .eq (.p1 .len (.var 0)) (.con (.int 0)))]) [(.ret (.con (.int 0)))] []), b5f1, (.ret (.con .non))]
/-- is_one_of -/
@[simp] def b6 : List St := [(.ret (.and [(.call 2 [(.var 1)]), (.cmp .inn (.var 1) (.var 0))]))]
/-- is_row_in -/
@[simp] def b7 : List St := [(.ife (.or [(.not (.call 1 [(.var 2), (.con (.int 4))])), (.not (.call 6 [(.var 0), (.ix (.var 2) (.con (.int 0)))])), (.not (.call 6 [(.var 1), (.ix (.var 2) (.con (.int 1)))]))]) [(.ret (.con (.bl false)))] []), (.ret (.and [(.call 4 [(.ix (.var 2) (.con (.int 2)))]), (.call 6 [(.var 0), (.ix (.var 2) (.con (.int 3)))])]))]
/-- wrong_rows -/
abbrev b8b1 : List St := [(.ife (.or [(.not (.call 7 [(.var 0), (.var 1), (.var 5)])), (.cmp .inn (.tup [(.ix (.var 5) (.con (.int 0))), (.ix (.var 5) (.con (.int 1)))]) (.var 3))]) [(.ret (.var 4))] []), (.put 3 (.tup [(.ix (.var 5) (.con (.int 0))), (.ix (.var 5) (.con (.int 1)))]) (.con (.bl true)))]
abbrev b8f1 : St := .for (.tp [(.nm 4), (.nm 5)]) (.enum (.var 2)) b8b1
@[simp] def b8 : List St := [(.ife (.not (.call 0 [(.var 2)])) [(.ret (.con (.int 0)))] []), (.asg (.nm 3) (.dnew true)), b8f1, (.ret (.con .non))]
/-- need_box -/
@[simp] def b9 : List St := [(.ife (.not (.isi (.var 0) [(.own (S "Box"))])) [(.rse (S "BadBox") [(S "box")] [(.var 0)])] [])]
/-- check_button -/
@[simp] def b10 : List St := [(.ife (.not (.call 6 [(.meth (.var 0) (S "Box") (S "buttons") 49 []), (.var 1)])) [(.rse (S "BadButton") [(S "button")] [(.var 1)])] [])]
/-- is_lot_of -/
abbrev b11c1 : Ex := .comp (.call 6 [(.var 2), (.var 4)]) [3, 4] (.nm 4) (.seq (.var 1)) []
abbrev b11c2 : Ex := .comp (.var 4) [3, 4] (.nm 4) (.seq (.var 2)) [(.cmp .inn (.var 4) (.var 1))]
@[simp] def b11 : List St := [(.ife (.or [(.not (.call 0 [(.var 1)])), (.cmp .eq (.p1 .len (.var 1)) (.con (.int 0)))]) [(.ret (.con (.bl false)))] []), (.asg (.nm 2) (.meth (.var 0) (S "Box") (S "states") 48 [])), (.ife (.not (.p1 .all b11c1)) [(.ret (.con (.bl false)))] []), (.ret (.cmp .eq b11c2 (.p1 .list (.var 1))))]
/-- is_lot -/
@[simp] def b12 : List St := [(.ex (.call 9 [(.var 0)])), (.ret (.call 11 [(.var 0), (.var 1)]))]
/-- need_lot -/
@[simp] def b13 : List St := [(.ex (.call 9 [(.var 0)])), (.ife (.not (.call 11 [(.var 0), (.var 1)])) [(.rse (S "BadLot") [(S "lot")] [(.var 1)])] [])]
/-- need_turn -/
@[simp] def b14 : List St := [(.ex (.call 13 [(.var 0), (.var 1)])), (.ex (.call 10 [(.var 0), (.var 2)]))]
/-- without_button -/
abbrev b15b1 : List St := [(.ife (.cmp .is (.meth (.var 0) (S "Box") (S "looked_up") 50 [(.var 3), (.var 2)]) (.con .non)) [(.ret (.var 3))] [])]
abbrev b15f1 : St := .for (.nm 3) (.seq (.var 1)) b15b1
@[simp] def b15 : List St := [b15f1, (.ret (.con .non))]
/-- is_there_for -/
@[simp] def b16 : List St := [(.ex (.call 14 [(.var 0), (.var 1), (.var 2)])), (.ret (.cmp .is (.call 15 [(.var 0), (.var 1), (.var 2)]) (.con .non)))]
/-- blurred -/
abbrev b17b1 : List St := [(.ife (.and [(.cmp .isn (.var 5) (.con .non)), (.cmp .eq (.meth (.var 0) (S "Box") (S "looked_up") 50 [(.var 6), (.var 2)]) (.var 5))]) [(.ret (.tup [(.var 4), (.var 6)]))] [])]
abbrev b17f1 : St := .for (.nm 6) (.seq (.sl (.var 1) (some (.bin .add (.var 3) (.con (.int 1)))) none)) b17b1
abbrev b17b2 : List St := [(.asg (.nm 5) (.meth (.var 0) (S "Box") (S "looked_up") 50 [(.var 4), (.var 2)])), b17f1]
abbrev b17f2 : St := .for (.tp [(.nm 3), (.nm 4)]) (.enum (.var 1)) b17b2
@[simp] def b17 : List St := [b17f2, (.ret (.con .non))]
/-- blur_of -/
@[simp] def b18 : List St := [(.ex (.call 14 [(.var 0), (.var 1), (.var 2)])), (.ret (.call 17 [(.var 0), (.var 1), (.var 2)]))]
/-- clear -/
@[simp] def b19 : List St := [(.ret (.and [(.cmp .is (.call 15 [(.var 0), (.var 1), (.var 2)]) (.con .non)), (.cmp .is (.call 17 [(.var 0), (.var 1), (.var 2)]) (.con .non))]))]
/-- is_clear -/
@[simp] def b20 : List St := [(.ex (.call 14 [(.var 0), (.var 1), (.var 2)])), (.ret (.call 19 [(.var 0), (.var 1), (.var 2)]))]
/-- _law_between -/
@[simp] def b23 : List St := [(.ret (.bin .add (.var 1) (.call 22 [(.var 0), (.bin .add (.p2 .max (.bin .sub (.var 2) (.var 1)) (.con (.int 0))) (.con (.int 1)))])))]
/-- _law_one -/
@[simp] def b24 : List St := [(.ret (.ix (.var 1) (.call 22 [(.var 0), (.p1 .len (.var 1))])))]
/-- _law_mixed -/
abbrev b25b1 : List St := [(.ex (.mut 3 .append [(.mut 2 .popAt [(.call 22 [(.var 0), (.p1 .len (.var 2))])])]))]
abbrev b25f1 : St := .for (.nm 4) (.rng (.p1 .len (.var 2))) b25b1
@[simp] def b25 : List St := [(.par [2, 3] [(.p1 .list (.var 1)), (.lst [])]), b25f1, (.ret (.var 3))]
/-- _law_same -/
abbrev b26c1 : Ex := .comp (.call 26 [(.var 3), (.var 4)]) [2, 3, 4] (.tp [(.nm 3), (.nm 4)]) (.zip (.var 0) (.var 1)) []
abbrev b26c2 : Ex := .comp (.call 26 [(.ix (.var 0) (.var 5)), (.ix (.var 1) (.var 5))]) [2, 5] (.nm 5) (.seq (.var 1)) []
@[simp] def b26 : List St := [(.ife (.isi (.var 1) [(.ty "list"), (.ty "tuple")]) [(.ife (.or [(.cmp .ne (.isi (.var 0) [(.ty "list")]) (.isi (.var 1) [(.ty "list")])), (.cmp .ne (.isi (.var 0) [(.ty "tuple")]) (.isi (.var 1) [(.ty "tuple")]))]) [(.ret (.con (.bl false)))] []), (.ret (.and [(.cmp .eq (.p1 .len (.var 0)) (.p1 .len (.var 1))), (.p1 .all b26c1)]))] []), (.ife (.isi (.var 1) [(.ty "dict")]) [(.ife (.or [(.not (.isi (.var 0) [(.ty "dict")])), (.not (.call 26 [(.p1 .list (.var 0)), (.p1 .list (.var 1))]))]) [(.ret (.con (.bl false)))] []), (.ret (.p1 .all b26c2))] []), (.ife (.cmp .is (.var 1) (.con .non)) [(.ret (.cmp .is (.var 0) (.con .non)))] []), (.ife (.isi (.var 1) [(.ty "bool")]) [(.ret (.and [(.isi (.var 0) [(.ty "bool")]), (.cmp .eq (.var 0) (.var 1))]))] []), (.ife (.isi (.var 1) [(.ty "int")]) [(.ret (.and [(.isi (.var 0) [(.ty "int")]), (.not (.isi (.var 0) [(.ty "bool")])), (.cmp .eq (.var 0) (.var 1))]))] []), (.ret (.and [(.isi (.var 0) [(.ty "str")]), (.cmp .eq (.var 0) (.var 1))]))]
/-- _law_copy -/
abbrev b27c1 : Ex := .comp (.call 27 [(.var 4)]) [3, 4] (.nm 4) (.seq (.var 0)) []
abbrev b27c2 : Ex := .comp (.call 27 [(.var 4)]) [3, 4] (.nm 4) (.seq (.var 0)) []
abbrev b27b1 : List St := [(.put 1 (.var 2) (.call 27 [(.ix (.var 0) (.var 2))]))]
abbrev b27f1 : St := .for (.nm 2) (.seq (.var 0)) b27b1
@[simp] def b27 : List St := [(.ife (.isi (.var 0) [(.ty "list")]) [(.ret b27c1)] []), (.ife (.isi (.var 0) [(.ty "tuple")]) [(.ret (.p1 .tuple b27c2))] []), (.ife (.isi (.var 0) [(.ty "dict")]) [(.asg (.nm 1) (.dnew false)), b27f1, (.ret (.var 1))] []), (.ret (.var 0))]
/-- _law_loose -/
abbrev b28c1 : Ex := .comp (.call 28 [(.var 0), (.var 6)]) [5, 6] (.nm 6) (.seq (.var 1)) []
abbrev b28b1 : List St := [(.put 3 (.var 4) (.call 28 [(.var 0), (.ix (.var 1) (.var 4))]))]
abbrev b28f1 : St := .for (.nm 4) (.seq (.call 25 [(.var 0), (.p1 .list (.var 1))])) b28b1
@[simp] def b28 : List St := [(.ife (.isi (.var 1) [(.ty "list"), (.ty "tuple")]) [(.asg (.nm 2) b28c1), (.ret (.ife (.cmp .eq (.call 22 [(.var 0), (.con (.int 2))]) (.con (.int 0))) (.var 2) (.p1 .tuple (.var 2))))] []), (.ife (.isi (.var 1) [(.ty "dict")]) [(.asg (.nm 3) (.dnew false)), b28f1, (.ret (.var 3))] []), (.ret (.var 1))]
/-- _law_free_word -/
abbrev b29b1 : List St := [(.ife (.cmp .nin (.var 1) (.var 0)) [(.ret (.var 1))] []), (.asg (.nm 1) (.bin .add (.bin .add (.ix (.con (.str (S "qxyz"))) (.bin .mod (.var 2) (.con (.int 4)))) (.ix (.con (.str (S "abcdefghijklmnopqrstuvwxyz"))) (.bin .mod (.bin .fdiv (.var 2) (.con (.int 4))) (.con (.int 26))))) (.ix (.con (.str (S "abcdefghij"))) (.bin .fdiv (.var 2) (.con (.int 104))))))]
abbrev b29f1 : St := .for (.nm 2) (.rng (.con (.int 600))) b29b1
@[simp] def b29 : List St := [b29f1, (.ret (.var 1))]
/-- _law_words -/
abbrev b30b1 : List St := [(.asg (.nm 5) (.bin .add (.var 5) (.ife (.var 2) (.ix (.con (.str (S "abc"))) (.call 22 [(.var 0), (.con (.int 3))])) (.ix (.con (.str (S "abcdefghijklmnopqrstuvwxyz"))) (.call 22 [(.var 0), (.con (.int 26))])))))]
abbrev b30f1 : St := .for (.nm 6) (.rng (.call 22 [(.var 0), (.ife (.var 2) (.con (.int 3)) (.con (.int 8)))])) b30b1
abbrev b30b2 : List St := [(.asg (.nm 5) (.ife (.var 2) (.ix (.con (.str (S "ab"))) (.call 22 [(.var 0), (.con (.int 2))])) (.ix (.con (.str (S "abcdefghijklmnopqrstuvwxyz"))) (.call 22 [(.var 0), (.con (.int 26))])))), b30f1, (.ex (.mut 3 .append [(.call 29 [(.var 3), (.var 5)])]))]
abbrev b30f2 : St := .for (.nm 4) (.rng (.var 1)) b30b2
@[simp] def b30 : List St := [(.par [2, 3] [(.cmp .eq (.call 22 [(.var 0), (.con (.int 2))]) (.con (.int 0))), (.lst [])]), b30f2, (.ret (.var 3))]
/-- _law_box_of -/
@[simp] def b31 : List St := [(.asg (.nm 1) (.call 27 [(.var 0)])), (.ret (.call 47 [(.ix (.var 1) (.con (.int 0))), (.ix (.var 1) (.con (.int 1))), (.ix (.var 1) (.con (.int 2)))]))]
/-- _law_at -/
abbrev b32b1 : List St := [(.ife (.and [(.cmp .eq (.var 3) (.var 1)), (.cmp .eq (.var 4) (.var 2))]) [(.ret (.tup [(.var 5), (.var 6)]))] [])]
abbrev b32f1 : St := .for (.tp [(.nm 3), (.nm 4), (.nm 5), (.nm 6)]) (.seq (.ix (.var 0) (.con (.int 2)))) b32b1
@[simp] def b32 : List St := [b32f1, (.ret (.con .non))]
/-- _law_order -/
abbrev b33c1 : Ex := .comp (.var 3) [2, 3] (.nm 3) (.seq (.ix (.var 0) (.con (.int 0)))) [(.cmp .inn (.var 3) (.var 1))]
@[simp] def b33 : List St := [(.ret b33c1)]
/-- _law_nexts -/
abbrev b34c1 : Ex := .comp (.bin .mod (.bin .add (.var 6) (.var 3)) (.var 1)) [5, 6] (.nm 6) (.rng (.var 1)) []
abbrev b34c2 : Ex := .comp (.ife (.and [(.cmp .eq (.var 2) (.con (.int 3))), (.cmp .gt (.call 22 [(.var 0), (.con (.int 3))]) (.con (.int 0)))]) (.var 4) (.call 22 [(.var 0), (.var 1)])) [5, 6] (.nm 6) (.rng (.var 1)) []
@[simp] def b34 : List St := [(.ife (.cmp .eq (.var 2) (.con (.int 1))) [(.ret (.call 25 [(.var 0), (.lrng (.var 1))]))] []), (.ife (.cmp .eq (.var 2) (.con (.int 2))) [(.asg (.nm 3) (.call 22 [(.var 0), (.var 1)])), (.ret b34c1)] []), (.asg (.nm 4) (.call 22 [(.var 0), (.var 1)])), (.ret b34c2)]
/-- _law_draw_box -/
abbrev b35b1 : List St := [(.asg (.nm 14) (.ife (.and [(.cmp .lt (.var 12) (.con (.int 2))), (.cmp .ne (.var 13) (.call 22 [(.var 0), (.var 5)]))]) (.ix (.var 9) (.con (.int 0))) (.call 24 [(.var 0), (.var 9)]))), (.ife (.or [(.cmp .eq (.var 3) (.con (.int 0))), (.cmp .gt (.call 22 [(.var 0), (.var 3)]) (.con (.int 0)))]) [(.ex (.mut 8 .append [(.tup [(.ix (.var 7) (.var 13)), (.var 10), (.var 14), (.ix (.var 7) (.ix (.var 11) (.var 13)))])]))] [])]
abbrev b35f1 : St := .for (.nm 13) (.rng (.var 5)) b35b1
abbrev b35b2 : List St := [(.par [11, 12] [(.call 34 [(.var 0), (.var 5), (.call 22 [(.var 0), (.con (.int 4))])]), (.call 22 [(.var 0), (.con (.int 4))])]), b35f1]
abbrev b35f2 : St := .for (.nm 10) (.seq (.var 6)) b35b2
@[simp] def b35 : List St := [(.asg (.nm 4) (.call 30 [(.var 0), (.bin .add (.var 2) (.con (.int 4)))])), (.par [5, 6] [(.call 23 [(.var 0), (.var 1), (.var 2)]), (.sl (.sl (.var 4) (some (.var 2)) none) none (some (.bin .add (.con (.int 1)) (.call 22 [(.var 0), (.con (.int 4))]))))]), (.par [7, 8, 9] [(.sl (.var 4) none (some (.var 5))), (.lst []), (.call 30 [(.var 0), (.bin .add (.con (.int 1)) (.call 22 [(.var 0), (.con (.int 3))]))])]), b35f2, (.ret (.lst [(.var 7), (.var 6), (.call 36 [(.lst [(.var 7), (.var 6), (.var 8)])])]))]
/-- _law_sorted_rows -/
abbrev b36c1 : Ex := .comp (.var 5) [4, 5] (.nm 5) (.seq (.ix (.var 0) (.con (.int 2)))) [(.and [(.cmp .eq (.ix (.var 5) (.con (.int 0))) (.var 2)), (.cmp .eq (.ix (.var 5) (.con (.int 1))) (.var 3))])]
abbrev b36b1 : List St := [(.ex (.mut 1 .extend [b36c1]))]
abbrev b36f1 : St := .for (.nm 3) (.seq (.ix (.var 0) (.con (.int 1)))) b36b1
abbrev b36b2 : List St := [b36f1]
abbrev b36f2 : St := .for (.nm 2) (.seq (.ix (.var 0) (.con (.int 0)))) b36b2
@[simp] def b36 : List St := [(.asg (.nm 1) (.lst [])), b36f2, (.ret (.var 1))]
/-- _law_some_lot -/
@[simp] def b37 : List St := [(.ret (.call 33 [(.var 1), (.sl (.call 25 [(.var 0), (.ix (.var 1) (.con (.int 0)))]) none (some (.call 23 [(.var 0), (.p2 .min (.var 2) (.p1 .len (.ix (.var 1) (.con (.int 0))))), (.p1 .len (.ix (.var 1) (.con (.int 0))))])))]))]
/-- _law_lacking -/
abbrev b38b1 : List St := [(.ife (.cmp .is (.call 32 [(.var 0), (.var 3), (.var 2)]) (.con .non)) [(.ret (.var 3))] [])]
abbrev b38f1 : St := .for (.nm 3) (.seq (.var 1)) b38b1
@[simp] def b38 : List St := [b38f1, (.ret (.con .non))]
/-- _law_pair -/
abbrev b39b1 : List St := [(.par [6, 7] [(.call 32 [(.var 0), (.ix (.var 1) (.var 4)), (.var 2)]), (.call 32 [(.var 0), (.var 5), (.var 2)])]), (.ife (.and [(.cmp .isn (.var 6) (.con .non)), (.cmp .isn (.var 7) (.con .non)), (.cmp .eq (.ix (.var 6) (.con (.int 1))) (.ix (.var 7) (.con (.int 1)))), (.or [(.var 3), (.cmp .eq (.ix (.var 6) (.con (.int 0))) (.ix (.var 7) (.con (.int 0))))])]) [(.ret (.tup [(.ix (.var 1) (.var 4)), (.var 5)]))] [])]
abbrev b39f1 : St := .for (.nm 5) (.seq (.sl (.var 1) (some (.bin .add (.var 4) (.con (.int 1)))) none)) b39b1
abbrev b39b2 : List St := [b39f1]
abbrev b39f2 : St := .for (.nm 4) (.rng (.p1 .len (.var 1))) b39b2
@[simp] def b39 : List St := [b39f2, (.ret (.con .non))]
/-- _law_clear -/
@[simp] def b40 : List St := [(.ret (.and [(.cmp .is (.call 38 [(.var 0), (.var 1), (.var 2)]) (.con .non)), (.cmp .is (.call 39 [(.var 0), (.var 1), (.var 2), (.var 3)]) (.con .non))]))]
/-- _law_is_lot -/
abbrev b41c1 : Ex := .comp (.isi (.var 3) [(.ty "str")]) [2, 3] (.nm 3) (.seq (.var 1)) []
abbrev b41c2 : Ex := .comp (.var 4) [2, 4] (.nm 4) (.seq (.ix (.var 0) (.con (.int 0)))) [(.cmp .inn (.var 4) (.var 1))]
@[simp] def b41 : List St := [(.ife (.or [(.not (.isi (.var 1) [(.ty "list"), (.ty "tuple")])), (.cmp .eq (.p1 .len (.var 1)) (.con (.int 0))), (.not (.p1 .all b41c1))]) [(.ret (.con (.bl false)))] []), (.ret (.cmp .eq b41c2 (.p1 .list (.var 1))))]
/-- _law_told -/
@[simp] def b42 : List St := []
/-- _law_odd_lots -/
@[simp] def b43 : List St := [(.asg (.nm 1) (.ix (.var 0) (.con (.int 0)))), (.asg (.nm 2) (.lst [(.con .non), (.con (.int 5)), (.con (.bl true)), (.con (.str (S "lot"))), (.lst []), (.dnew false), (.lst [(.con .non)]), (.lst [(.ix (.var 1) (.con (.int 0))), (.ix (.var 1) (.con (.int 0)))]), (.lst [(.ix (.var 1) (.con (.int 0))), (.call 29 [(.var 1), (.con (.str (S "stranger")))])]), (.bin .add (.var 1) (.lst [(.con (.str (S "No")))])), (.lst [(.lst [(.ix (.var 1) (.con (.int 0)))])])])), (.ret (.bin .add (.var 2) (.ife (.cmp .gt (.p1 .len (.var 1)) (.con (.int 1))) (.lst [(.rev (.var 1)), (.lst [(.ix (.var 1) (.con (.int 1))), (.ix (.var 1) (.con (.int 0)))]), (.ix (.var 1) (.con (.int 0)))]) (.lst [(.ix (.var 1) (.con (.int 0)))]))))]
/-- _law_lot_right -/
abbrev b44b1 : List St := [(.asg (.nm 5) (.call 28 [(.var 0), (.var 3)])), (.asg (.nm 6) (.call 27 [(.var 5)])), (.asg (.nm 7) (.lst [(.cmp .is (.call 38 [(.var 1), (.var 3), (.var 4)]) (.con .non)), (.call 39 [(.var 1), (.var 3), (.var 4), (.con (.bl false))]), (.call 40 [(.var 1), (.var 3), (.var 4), (.con (.bl false))])])), (.asg (.nm 8) (.lst [(.call 16 [(.var 2), (.var 5), (.var 4)]), (.call 18 [(.var 2), (.var 5), (.var 4)]), (.call 20 [(.var 2), (.var 5), (.var 4)])])), (.ife (.or [(.not (.call 26 [(.var 8), (.var 7)])), (.not (.call 26 [(.var 5), (.var 6)]))]) [(.ret (.con (.bl false)))] [])]
abbrev b44f1 : St := .for (.nm 4) (.seq (.ix (.var 1) (.con (.int 1)))) b44b1
@[simp] def b44 : List St := [b44f1, (.ret (.cmp .is (.call 12 [(.var 2), (.call 28 [(.var 0), (.var 3)])]) (.con (.bl true))))]
/-- _law_refused_right -/
abbrev b45c1 : Ex := .told true (.call 16 [(.var 2), (.call 27 [(.var 4)]), (.con .non)]) [((S "BadBox"), [(S "box")], (S "box")), ((S "BadState"), [(S "state")], (S "state")), ((S "BadButton"), [(S "button")], (S "button")), ((S "BadPresses"), [(S "presses")], (S "presses")), ((S "BadLog"), [(S "log")], (S "log")), ((S "BadLot"), [(S "lot")], (S "lot")), ((S "BadTree"), [(S "tree")], (S "tree")), ((S "BadTrap"), [(S "trap")], (S "trap")), ((S "BadLots"), [(S "lots")], (S "index")), ((S "BadSplits"), [(S "splits")], (S "splits")), ((S "BadAnswer"), [(S "answer")], (S "answer")), ((S "BadTreeText"), [(S "tree text")], (S "line")), ((S "BadAnswerText"), [(S "answer text")], (S "line")), ((S "BadWholeText"), [(S "whole text")], (S "line")), ((S "BadPrices"), [(S "prices")], (S "prices")), ((S "BadBound"), [(S "bound")], (S "bound")), ((S "BadDear"), [(S "dear")], (S "dear")), ((S "BadLosses"), [(S "losses")], (S "losses")), ((S "BadLost"), [(S "lost")], (S "lost")), ((S "BadLossTree"), [(S "loss tree")], (S "tree"))]
abbrev b45c2 : Ex := .told true (.call 18 [(.var 2), (.call 27 [(.var 4)]), (.con .non)]) [((S "BadBox"), [(S "box")], (S "box")), ((S "BadState"), [(S "state")], (S "state")), ((S "BadButton"), [(S "button")], (S "button")), ((S "BadPresses"), [(S "presses")], (S "presses")), ((S "BadLog"), [(S "log")], (S "log")), ((S "BadLot"), [(S "lot")], (S "lot")), ((S "BadTree"), [(S "tree")], (S "tree")), ((S "BadTrap"), [(S "trap")], (S "trap")), ((S "BadLots"), [(S "lots")], (S "index")), ((S "BadSplits"), [(S "splits")], (S "splits")), ((S "BadAnswer"), [(S "answer")], (S "answer")), ((S "BadTreeText"), [(S "tree text")], (S "line")), ((S "BadAnswerText"), [(S "answer text")], (S "line")), ((S "BadWholeText"), [(S "whole text")], (S "line")), ((S "BadPrices"), [(S "prices")], (S "prices")), ((S "BadBound"), [(S "bound")], (S "bound")), ((S "BadDear"), [(S "dear")], (S "dear")), ((S "BadLosses"), [(S "losses")], (S "losses")), ((S "BadLost"), [(S "lost")], (S "lost")), ((S "BadLossTree"), [(S "loss tree")], (S "tree"))]
abbrev b45c3 : Ex := .told true (.call 20 [(.var 2), (.call 27 [(.var 4)]), (.con .non)]) [((S "BadBox"), [(S "box")], (S "box")), ((S "BadState"), [(S "state")], (S "state")), ((S "BadButton"), [(S "button")], (S "button")), ((S "BadPresses"), [(S "presses")], (S "presses")), ((S "BadLog"), [(S "log")], (S "log")), ((S "BadLot"), [(S "lot")], (S "lot")), ((S "BadTree"), [(S "tree")], (S "tree")), ((S "BadTrap"), [(S "trap")], (S "trap")), ((S "BadLots"), [(S "lots")], (S "index")), ((S "BadSplits"), [(S "splits")], (S "splits")), ((S "BadAnswer"), [(S "answer")], (S "answer")), ((S "BadTreeText"), [(S "tree text")], (S "line")), ((S "BadAnswerText"), [(S "answer text")], (S "line")), ((S "BadWholeText"), [(S "whole text")], (S "line")), ((S "BadPrices"), [(S "prices")], (S "prices")), ((S "BadBound"), [(S "bound")], (S "bound")), ((S "BadDear"), [(S "dear")], (S "dear")), ((S "BadLosses"), [(S "losses")], (S "losses")), ((S "BadLost"), [(S "lost")], (S "lost")), ((S "BadLossTree"), [(S "loss tree")], (S "tree"))]
abbrev b45b1 : List St := [(.ife (.or [(.not (.call 26 [(.call 12 [(.var 2), (.call 27 [(.var 4)])]), (.call 41 [(.var 1), (.var 4)])])), (.call 41 [(.var 1), (.var 4)])]) [(.ret (.con (.bl false)))] []), (.asg (.nm 3) (.lst [b45c1])), (.ex (.mut 3 .append [b45c2])), (.ex (.mut 3 .append [b45c3])), (.ife (.not (.call 26 [(.var 3), (.bin .mul (.lst [(.lst [(.con (.str (S "lot"))), (.var 4)])]) (.con (.int 3)))])) [(.ret (.con (.bl false)))] [])]
abbrev b45f1 : St := .for (.nm 4) (.seq (.call 43 [(.var 1)])) b45b1
abbrev b45c4 : Ex := .told true (.call 16 [(.var 2), (.p1 .list (.ix (.var 1) (.con (.int 0)))), (.call 27 [(.var 4)])]) [((S "BadBox"), [(S "box")], (S "box")), ((S "BadState"), [(S "state")], (S "state")), ((S "BadButton"), [(S "button")], (S "button")), ((S "BadPresses"), [(S "presses")], (S "presses")), ((S "BadLog"), [(S "log")], (S "log")), ((S "BadLot"), [(S "lot")], (S "lot")), ((S "BadTree"), [(S "tree")], (S "tree")), ((S "BadTrap"), [(S "trap")], (S "trap")), ((S "BadLots"), [(S "lots")], (S "index")), ((S "BadSplits"), [(S "splits")], (S "splits")), ((S "BadAnswer"), [(S "answer")], (S "answer")), ((S "BadTreeText"), [(S "tree text")], (S "line")), ((S "BadAnswerText"), [(S "answer text")], (S "line")), ((S "BadWholeText"), [(S "whole text")], (S "line")), ((S "BadPrices"), [(S "prices")], (S "prices")), ((S "BadBound"), [(S "bound")], (S "bound")), ((S "BadDear"), [(S "dear")], (S "dear")), ((S "BadLosses"), [(S "losses")], (S "losses")), ((S "BadLost"), [(S "lost")], (S "lost")), ((S "BadLossTree"), [(S "loss tree")], (S "tree"))]
abbrev b45c5 : Ex := .told true (.call 18 [(.var 2), (.p1 .list (.ix (.var 1) (.con (.int 0)))), (.call 27 [(.var 4)])]) [((S "BadBox"), [(S "box")], (S "box")), ((S "BadState"), [(S "state")], (S "state")), ((S "BadButton"), [(S "button")], (S "button")), ((S "BadPresses"), [(S "presses")], (S "presses")), ((S "BadLog"), [(S "log")], (S "log")), ((S "BadLot"), [(S "lot")], (S "lot")), ((S "BadTree"), [(S "tree")], (S "tree")), ((S "BadTrap"), [(S "trap")], (S "trap")), ((S "BadLots"), [(S "lots")], (S "index")), ((S "BadSplits"), [(S "splits")], (S "splits")), ((S "BadAnswer"), [(S "answer")], (S "answer")), ((S "BadTreeText"), [(S "tree text")], (S "line")), ((S "BadAnswerText"), [(S "answer text")], (S "line")), ((S "BadWholeText"), [(S "whole text")], (S "line")), ((S "BadPrices"), [(S "prices")], (S "prices")), ((S "BadBound"), [(S "bound")], (S "bound")), ((S "BadDear"), [(S "dear")], (S "dear")), ((S "BadLosses"), [(S "losses")], (S "losses")), ((S "BadLost"), [(S "lost")], (S "lost")), ((S "BadLossTree"), [(S "loss tree")], (S "tree"))]
abbrev b45c6 : Ex := .told true (.call 20 [(.var 2), (.p1 .list (.ix (.var 1) (.con (.int 0)))), (.call 27 [(.var 4)])]) [((S "BadBox"), [(S "box")], (S "box")), ((S "BadState"), [(S "state")], (S "state")), ((S "BadButton"), [(S "button")], (S "button")), ((S "BadPresses"), [(S "presses")], (S "presses")), ((S "BadLog"), [(S "log")], (S "log")), ((S "BadLot"), [(S "lot")], (S "lot")), ((S "BadTree"), [(S "tree")], (S "tree")), ((S "BadTrap"), [(S "trap")], (S "trap")), ((S "BadLots"), [(S "lots")], (S "index")), ((S "BadSplits"), [(S "splits")], (S "splits")), ((S "BadAnswer"), [(S "answer")], (S "answer")), ((S "BadTreeText"), [(S "tree text")], (S "line")), ((S "BadAnswerText"), [(S "answer text")], (S "line")), ((S "BadWholeText"), [(S "whole text")], (S "line")), ((S "BadPrices"), [(S "prices")], (S "prices")), ((S "BadBound"), [(S "bound")], (S "bound")), ((S "BadDear"), [(S "dear")], (S "dear")), ((S "BadLosses"), [(S "losses")], (S "losses")), ((S "BadLost"), [(S "lost")], (S "lost")), ((S "BadLossTree"), [(S "loss tree")], (S "tree"))]
abbrev b45b2 : List St := [(.asg (.nm 3) (.lst [b45c4])), (.ex (.mut 3 .append [b45c5])), (.ex (.mut 3 .append [b45c6])), (.ife (.not (.call 26 [(.var 3), (.bin .mul (.lst [(.lst [(.con (.str (S "button"))), (.var 4)])]) (.con (.int 3)))])) [(.ret (.con (.bl false)))] [])]
abbrev b45f2 : St := .for (.nm 4) (.seq (.tup [(.con .non), (.con (.int 5)), (.con (.str (S ""))), (.con (.str (S "No"))), (.lst [(.ix (.ix (.var 1) (.con (.int 1))) (.con (.int 0)))]), (.con (.bl true)), (.call 29 [(.ix (.var 1) (.con (.int 1))), (.con (.str (S "stranger")))])])) b45b2
abbrev b45c7 : Ex := .told true (.call 12 [(.call 27 [(.var 4)]), (.con .non)]) [((S "BadBox"), [(S "box")], (S "box")), ((S "BadState"), [(S "state")], (S "state")), ((S "BadButton"), [(S "button")], (S "button")), ((S "BadPresses"), [(S "presses")], (S "presses")), ((S "BadLog"), [(S "log")], (S "log")), ((S "BadLot"), [(S "lot")], (S "lot")), ((S "BadTree"), [(S "tree")], (S "tree")), ((S "BadTrap"), [(S "trap")], (S "trap")), ((S "BadLots"), [(S "lots")], (S "index")), ((S "BadSplits"), [(S "splits")], (S "splits")), ((S "BadAnswer"), [(S "answer")], (S "answer")), ((S "BadTreeText"), [(S "tree text")], (S "line")), ((S "BadAnswerText"), [(S "answer text")], (S "line")), ((S "BadWholeText"), [(S "whole text")], (S "line")), ((S "BadPrices"), [(S "prices")], (S "prices")), ((S "BadBound"), [(S "bound")], (S "bound")), ((S "BadDear"), [(S "dear")], (S "dear")), ((S "BadLosses"), [(S "losses")], (S "losses")), ((S "BadLost"), [(S "lost")], (S "lost")), ((S "BadLossTree"), [(S "loss tree")], (S "tree"))]
abbrev b45c8 : Ex := .told true (.call 16 [(.call 27 [(.var 4)]), (.con .non), (.con .non)]) [((S "BadBox"), [(S "box")], (S "box")), ((S "BadState"), [(S "state")], (S "state")), ((S "BadButton"), [(S "button")], (S "button")), ((S "BadPresses"), [(S "presses")], (S "presses")), ((S "BadLog"), [(S "log")], (S "log")), ((S "BadLot"), [(S "lot")], (S "lot")), ((S "BadTree"), [(S "tree")], (S "tree")), ((S "BadTrap"), [(S "trap")], (S "trap")), ((S "BadLots"), [(S "lots")], (S "index")), ((S "BadSplits"), [(S "splits")], (S "splits")), ((S "BadAnswer"), [(S "answer")], (S "answer")), ((S "BadTreeText"), [(S "tree text")], (S "line")), ((S "BadAnswerText"), [(S "answer text")], (S "line")), ((S "BadWholeText"), [(S "whole text")], (S "line")), ((S "BadPrices"), [(S "prices")], (S "prices")), ((S "BadBound"), [(S "bound")], (S "bound")), ((S "BadDear"), [(S "dear")], (S "dear")), ((S "BadLosses"), [(S "losses")], (S "losses")), ((S "BadLost"), [(S "lost")], (S "lost")), ((S "BadLossTree"), [(S "loss tree")], (S "tree"))]
abbrev b45c9 : Ex := .told true (.call 18 [(.call 27 [(.var 4)]), (.con .non), (.con .non)]) [((S "BadBox"), [(S "box")], (S "box")), ((S "BadState"), [(S "state")], (S "state")), ((S "BadButton"), [(S "button")], (S "button")), ((S "BadPresses"), [(S "presses")], (S "presses")), ((S "BadLog"), [(S "log")], (S "log")), ((S "BadLot"), [(S "lot")], (S "lot")), ((S "BadTree"), [(S "tree")], (S "tree")), ((S "BadTrap"), [(S "trap")], (S "trap")), ((S "BadLots"), [(S "lots")], (S "index")), ((S "BadSplits"), [(S "splits")], (S "splits")), ((S "BadAnswer"), [(S "answer")], (S "answer")), ((S "BadTreeText"), [(S "tree text")], (S "line")), ((S "BadAnswerText"), [(S "answer text")], (S "line")), ((S "BadWholeText"), [(S "whole text")], (S "line")), ((S "BadPrices"), [(S "prices")], (S "prices")), ((S "BadBound"), [(S "bound")], (S "bound")), ((S "BadDear"), [(S "dear")], (S "dear")), ((S "BadLosses"), [(S "losses")], (S "losses")), ((S "BadLost"), [(S "lost")], (S "lost")), ((S "BadLossTree"), [(S "loss tree")], (S "tree"))]
abbrev b45c10 : Ex := .told true (.call 20 [(.call 27 [(.var 4)]), (.con .non), (.con .non)]) [((S "BadBox"), [(S "box")], (S "box")), ((S "BadState"), [(S "state")], (S "state")), ((S "BadButton"), [(S "button")], (S "button")), ((S "BadPresses"), [(S "presses")], (S "presses")), ((S "BadLog"), [(S "log")], (S "log")), ((S "BadLot"), [(S "lot")], (S "lot")), ((S "BadTree"), [(S "tree")], (S "tree")), ((S "BadTrap"), [(S "trap")], (S "trap")), ((S "BadLots"), [(S "lots")], (S "index")), ((S "BadSplits"), [(S "splits")], (S "splits")), ((S "BadAnswer"), [(S "answer")], (S "answer")), ((S "BadTreeText"), [(S "tree text")], (S "line")), ((S "BadAnswerText"), [(S "answer text")], (S "line")), ((S "BadWholeText"), [(S "whole text")], (S "line")), ((S "BadPrices"), [(S "prices")], (S "prices")), ((S "BadBound"), [(S "bound")], (S "bound")), ((S "BadDear"), [(S "dear")], (S "dear")), ((S "BadLosses"), [(S "losses")], (S "losses")), ((S "BadLost"), [(S "lost")], (S "lost")), ((S "BadLossTree"), [(S "loss tree")], (S "tree"))]
abbrev b45b3 : List St := [(.asg (.nm 3) (.lst [b45c7])), (.ex (.mut 3 .append [b45c8])), (.ex (.mut 3 .append [b45c9])), (.ex (.mut 3 .append [b45c10])), (.ife (.not (.call 26 [(.var 3), (.bin .mul (.lst [(.lst [(.con (.str (S "box"))), (.var 4)])]) (.con (.int 4)))])) [(.ret (.con (.bl false)))] [])]
abbrev b45f3 : St := .for (.nm 4) (.seq (.tup [(.con .non), (.con (.int 5)), (.con (.str (S "box"))), (.lst []), (.dnew false)])) b45b3
@[simp] def b45 : List St := [b45f1, b45f2, b45f3, (.ret (.con (.bl true)))]
/-- law -/
abbrev b46b1 : List St := [(.ife (.not (.call 44 [(.var 1), (.var 3), (.var 4), (.call 37 [(.var 1), (.var 3), (.con (.int 1))])])) [(.ret (.con (.bl false)))] [])]
abbrev b46f1 : St := .for (.nm 5) (.rng (.con (.int 5))) b46b1
abbrev b46b2 : List St := [(.asg (.nm 3) (.call 35 [(.var 1), (.con (.int 1)), (.con (.int 6)), (.call 24 [(.var 1), (.lst [(.con (.int 0)), (.con (.int 3)), (.con (.int 8))])])])), (.asg (.nm 4) (.call 31 [(.var 3)])), b46f1, (.ife (.not (.call 45 [(.var 1), (.var 3), (.var 4)])) [(.ret (.con (.bl false)))] [])]
abbrev b46f2 : St := .for (.nm 2) (.rng (.con (.int 2))) b46b2
@[simp] def b46 : List St := [(.asg (.nm 1) (.call 21 [(.var 0)])), b46f2, (.ret (.con (.bl true)))]
/-- Box.__init__ -/
abbrev b47c1 : Ex := .dcomp true (.tup [(.ix (.var 6) (.con (.int 0))), (.ix (.var 6) (.con (.int 1)))]) (.tup [(.ix (.var 6) (.con (.int 2))), (.ix (.var 6) (.con (.int 3)))]) [5, 6] (.nm 6) (.seq (.var 3)) []
@[simp] def b47 : List St := [(.asg (.nm 4) (.call 5 [(.var 1)])), (.ife (.cmp .isn (.var 4) (.con .non)) [(.rse (S "BadStates") [(S "index")] [(.var 4)])] []), (.asg (.nm 4) (.call 5 [(.var 2)])), (.ife (.cmp .isn (.var 4) (.con .non)) [(.rse (S "BadButtons") [(S "index")] [(.var 4)])] []), (.asg (.nm 4) (.call 8 [(.var 1), (.var 2), (.var 3)])), (.ife (.cmp .isn (.var 4) (.con .non)) [(.rse (S "BadRows") [(S "index")] [(.var 4)])] []), (.fld 0 (S "_states") (.p1 .list (.var 1))), (.fld 0 (S "_buttons") (.p1 .list (.var 2))), (.fld 0 (S "_table") b47c1)]
/-- Box.states -/
@[simp] def b48 : List St := [(.ret (.p1 .list (.fld (.var 0) (S "_states"))))]
/-- Box.buttons -/
@[simp] def b49 : List St := [(.ret (.p1 .list (.fld (.var 0) (S "_buttons"))))]
/-- Box.looked_up -/
@[simp] def b50 : List St := [(.ret (.get1 (.fld (.var 0) (S "_table")) (.tup [(.var 1), (.var 2)])))]
/-- Box.rows -/
abbrev b51b1 : List St := [(.ife (.cmp .inn (.tup [(.var 2), (.var 3)]) (.fld (.var 0) (S "_table"))) [(.asg (.tp [(.nm 4), (.nm 5)]) (.ix (.fld (.var 0) (S "_table")) (.tup [(.var 2), (.var 3)]))), (.ex (.mut 1 .append [(.tup [(.var 2), (.var 3), (.var 4), (.var 5)])]))] [])]
abbrev b51f1 : St := .for (.nm 3) (.seq (.fld (.var 0) (S "_buttons"))) b51b1
abbrev b51b2 : List St := [b51f1]
abbrev b51f2 : St := .for (.nm 2) (.seq (.fld (.var 0) (S "_states"))) b51b2
@[simp] def b51 : List St := [(.asg (.nm 1) (.lst [])), b51f2, (.ret (.var 1))]
/-- Box.__eq__ -/
@[simp] def b52 : List St := [(.ife (.not (.isi (.var 1) [(.own (S "Box"))])) [(.ret (.con (.bl false)))] []), (.ife (.or [(.cmp .ne (.fld (.var 0) (S "_states")) (.meth (.var 1) (S "Box") (S "states") 48 [])), (.cmp .ne (.fld (.var 0) (S "_buttons")) (.meth (.var 1) (S "Box") (S "buttons") 49 []))]) [(.ret (.con (.bl false)))] []), (.ret (.cmp .eq (.meth (.var 0) (S "Box") (S "rows") 51 []) (.meth (.var 1) (S "Box") (S "rows") 51 [])))]
def G0 : List (Fd × Bool) := [(.fn 1 1 b0, false),
  (.fn 2 2 b1, false),
  (.fn 1 1 b2, false),
  (.fn 1 3 b3, false),
  (.fn 1 1 b4, false),
  (.fn 1 3 b5, false),
  (.fn 2 2 b6, false),
  (.fn 3 3 b7, false),
  (.fn 3 6 b8, false),
  (.fn 1 1 b9, false),
  (.fn 2 2 b10, false),
  (.fn 2 5 b11, false),
  (.fn 2 2 b12, false),
  (.fn 2 2 b13, false),
  (.fn 3 3 b14, false),
  (.fn 3 4 b15, false),
  (.fn 3 3 b16, false),
  (.fn 3 7 b17, false),
  (.fn 3 3 b18, false),
  (.fn 3 3 b19, false)]
def G1 : List (Fd × Bool) := [(.fn 3 3 b20, false),
  (.start, false),
  (.pick, false),
  (.fn 3 3 b23, false),
  (.fn 2 2 b24, false),
  (.fn 2 5 b25, false),
  (.fn 2 6 b26, false),
  (.fn 1 5 b27, false),
  (.fn 2 7 b28, false),
  (.fn 2 3 b29, false),
  (.fn 2 7 b30, false),
  (.fn 1 2 b31, false),
  (.fn 3 7 b32, false),
  (.fn 2 4 b33, false),
  (.fn 3 7 b34, false),
  (.fn 4 15 b35, false),
  (.fn 1 6 b36, false),
  (.fn 3 3 b37, false),
  (.fn 3 4 b38, false),
  (.fn 4 8 b39, false)]
def G2 : List (Fd × Bool) := [(.fn 4 4 b40, false),
  (.fn 2 5 b41, false),
  (.fn 0 0 b42, false),
  (.fn 1 3 b43, false),
  (.fn 4 9 b44, false),
  (.fn 3 5 b45, true),
  (.fn 1 6 b46, false),
  (.init (S "Box") 4 7 b47, false),
  (.fn 1 1 b48, false),
  (.fn 1 1 b49, false),
  (.fn 3 3 b50, false),
  (.fn 1 6 b51, false),
  (.fn 2 2 b52, false)]
def G : List (Fd × Bool) := G0 ++ G1 ++ G2
def Γ : List (Fd × Bool) := G
def D (i : Nat) : Df := ds.getD i ⟨none, S "", [], noPar, [], [], ⟨.function, [], false, false, []⟩⟩
def Xd (i : Nat) : PySem.Str × Df := xs.getD i (S "", D 0)
theorem hG : ds.map (fdOf τ) = G := by kernel_rfl
theorem bd0 : (D 0).bind := bind1 (by kernel_rfl) fun kV doc pm an cdv ct u0 => by kernel_rfl
theorem bd1 : (D 1).bind := bind2 (by kernel_rfl) fun kV doc pm an cdv ct u0 u1 => by kernel_rfl
theorem bd2 : (D 2).bind := bind1 (by kernel_rfl) fun kV doc pm an cdv ct u0 => by kernel_rfl
theorem bd3 : (D 3).bind := bind1 (by kernel_rfl) fun kV doc pm an cdv ct u0 => by kernel_rfl
theorem bd4 : (D 4).bind := bind1 (by kernel_rfl) fun kV doc pm an cdv ct u0 => by kernel_rfl
theorem bd5 : (D 5).bind := bind1 (by kernel_rfl) fun kV doc pm an cdv ct u0 => by kernel_rfl
theorem bd6 : (D 6).bind := bind2 (by kernel_rfl) fun kV doc pm an cdv ct u0 u1 => by kernel_rfl
theorem bd7 : (D 7).bind := bind3 (by kernel_rfl) fun kV doc pm an cdv ct u0 u1 u2 => by kernel_rfl
theorem bd8 : (D 8).bind := bind3 (by kernel_rfl) fun kV doc pm an cdv ct u0 u1 u2 => by kernel_rfl
theorem bd9 : (D 9).bind := bind1 (by kernel_rfl) fun kV doc pm an cdv ct u0 => by kernel_rfl
theorem bd10 : (D 10).bind := bind2 (by kernel_rfl) fun kV doc pm an cdv ct u0 u1 => by kernel_rfl
theorem bd11 : (D 11).bind := bind2 (by kernel_rfl) fun kV doc pm an cdv ct u0 u1 => by kernel_rfl
theorem bd12 : (D 12).bind := bind2 (by kernel_rfl) fun kV doc pm an cdv ct u0 u1 => by kernel_rfl
theorem bd13 : (D 13).bind := bind2 (by kernel_rfl) fun kV doc pm an cdv ct u0 u1 => by kernel_rfl
theorem bd14 : (D 14).bind := bind3 (by kernel_rfl) fun kV doc pm an cdv ct u0 u1 u2 => by kernel_rfl
theorem bd15 : (D 15).bind := bind3 (by kernel_rfl) fun kV doc pm an cdv ct u0 u1 u2 => by kernel_rfl
theorem bd16 : (D 16).bind := bind3 (by kernel_rfl) fun kV doc pm an cdv ct u0 u1 u2 => by kernel_rfl
theorem bd17 : (D 17).bind := bind3 (by kernel_rfl) fun kV doc pm an cdv ct u0 u1 u2 => by kernel_rfl
theorem bd18 : (D 18).bind := bind3 (by kernel_rfl) fun kV doc pm an cdv ct u0 u1 u2 => by kernel_rfl
theorem bd19 : (D 19).bind := bind3 (by kernel_rfl) fun kV doc pm an cdv ct u0 u1 u2 => by kernel_rfl
theorem bd20 : (D 20).bind := bind3 (by kernel_rfl) fun kV doc pm an cdv ct u0 u1 u2 => by kernel_rfl
theorem bd21 : (D 21).bind := bind1 (by kernel_rfl) fun kV doc pm an cdv ct u0 => by kernel_rfl
theorem bd22 : (D 22).bind := bind2 (by kernel_rfl) fun kV doc pm an cdv ct u0 u1 => by kernel_rfl
theorem bd23 : (D 23).bind := bind3 (by kernel_rfl) fun kV doc pm an cdv ct u0 u1 u2 => by kernel_rfl
theorem bd24 : (D 24).bind := bind2 (by kernel_rfl) fun kV doc pm an cdv ct u0 u1 => by kernel_rfl
theorem bd25 : (D 25).bind := bind2 (by kernel_rfl) fun kV doc pm an cdv ct u0 u1 => by kernel_rfl
theorem bd26 : (D 26).bind := bind2 (by kernel_rfl) fun kV doc pm an cdv ct u0 u1 => by kernel_rfl
theorem bd27 : (D 27).bind := bind1 (by kernel_rfl) fun kV doc pm an cdv ct u0 => by kernel_rfl
theorem bd28 : (D 28).bind := bind2 (by kernel_rfl) fun kV doc pm an cdv ct u0 u1 => by kernel_rfl
theorem bd29 : (D 29).bind := bind2 (by kernel_rfl) fun kV doc pm an cdv ct u0 u1 => by kernel_rfl
theorem bd30 : (D 30).bind := bind2 (by kernel_rfl) fun kV doc pm an cdv ct u0 u1 => by kernel_rfl
theorem bd31 : (D 31).bind := bind1 (by kernel_rfl) fun kV doc pm an cdv ct u0 => by kernel_rfl
theorem bd32 : (D 32).bind := bind3 (by kernel_rfl) fun kV doc pm an cdv ct u0 u1 u2 => by kernel_rfl
theorem bd33 : (D 33).bind := bind2 (by kernel_rfl) fun kV doc pm an cdv ct u0 u1 => by kernel_rfl
theorem bd34 : (D 34).bind := bind3 (by kernel_rfl) fun kV doc pm an cdv ct u0 u1 u2 => by kernel_rfl
theorem bd35 : (D 35).bind := bind4 (by kernel_rfl) fun kV doc pm an cdv ct u0 u1 u2 u3 => by kernel_rfl
theorem bd36 : (D 36).bind := bind1 (by kernel_rfl) fun kV doc pm an cdv ct u0 => by kernel_rfl
theorem bd37 : (D 37).bind := bind3 (by kernel_rfl) fun kV doc pm an cdv ct u0 u1 u2 => by kernel_rfl
theorem bd38 : (D 38).bind := bind3 (by kernel_rfl) fun kV doc pm an cdv ct u0 u1 u2 => by kernel_rfl
theorem bd39 : (D 39).bind := bind4 (by kernel_rfl) fun kV doc pm an cdv ct u0 u1 u2 u3 => by kernel_rfl
theorem bd40 : (D 40).bind := bind4 (by kernel_rfl) fun kV doc pm an cdv ct u0 u1 u2 u3 => by kernel_rfl
theorem bd41 : (D 41).bind := bind2 (by kernel_rfl) fun kV doc pm an cdv ct u0 u1 => by kernel_rfl
theorem bd42 : (D 42).bind := bind1 (by kernel_rfl) fun kV doc pm an cdv ct u0 => by kernel_rfl
theorem bd43 : (D 43).bind := bind1 (by kernel_rfl) fun kV doc pm an cdv ct u0 => by kernel_rfl
theorem bd44 : (D 44).bind := bind4 (by kernel_rfl) fun kV doc pm an cdv ct u0 u1 u2 u3 => by kernel_rfl
theorem bd45 : (D 45).bind := bind3 (by kernel_rfl) fun kV doc pm an cdv ct u0 u1 u2 => by kernel_rfl
theorem bd46 : (D 46).bind := bind1 (by kernel_rfl) fun kV doc pm an cdv ct u0 => by kernel_rfl
theorem bd47 : (D 47).bind := bind4 (by kernel_rfl) fun kV doc pm an cdv ct u0 u1 u2 u3 => by kernel_rfl
theorem bd48 : (D 48).bind := bind1 (by kernel_rfl) fun kV doc pm an cdv ct u0 => by kernel_rfl
theorem bd49 : (D 49).bind := bind1 (by kernel_rfl) fun kV doc pm an cdv ct u0 => by kernel_rfl
theorem bd50 : (D 50).bind := bind3 (by kernel_rfl) fun kV doc pm an cdv ct u0 u1 u2 => by kernel_rfl
theorem bd51 : (D 51).bind := bind1 (by kernel_rfl) fun kV doc pm an cdv ct u0 => by kernel_rfl
theorem bd52 : (D 52).bind := bind2 (by kernel_rfl) fun kV doc pm an cdv ct u0 u1 => by kernel_rfl
theorem bx0 : (Xd 0).2.bind := bind2 (by kernel_rfl) fun kV doc pm an cdv ct u0 u1 => by kernel_rfl
theorem bx1 : (Xd 1).2.bind := bind2 (by kernel_rfl) fun kV doc pm an cdv ct u0 u1 => by kernel_rfl
theorem bx2 : (Xd 2).2.bind := bind2 (by kernel_rfl) fun kV doc pm an cdv ct u0 u1 => by kernel_rfl
theorem bx3 : (Xd 3).2.bind := bind2 (by kernel_rfl) fun kV doc pm an cdv ct u0 u1 => by kernel_rfl
theorem bx4 : (Xd 4).2.bind := bind2 (by kernel_rfl) fun kV doc pm an cdv ct u0 u1 => by kernel_rfl
theorem bx5 : (Xd 5).2.bind := bind2 (by kernel_rfl) fun kV doc pm an cdv ct u0 u1 => by kernel_rfl
theorem bx6 : (Xd 6).2.bind := bind2 (by kernel_rfl) fun kV doc pm an cdv ct u0 u1 => by kernel_rfl
theorem bx7 : (Xd 7).2.bind := bind2 (by kernel_rfl) fun kV doc pm an cdv ct u0 u1 => by kernel_rfl
theorem bx8 : (Xd 8).2.bind := bind2 (by kernel_rfl) fun kV doc pm an cdv ct u0 u1 => by kernel_rfl
theorem bx9 : (Xd 9).2.bind := bind2 (by kernel_rfl) fun kV doc pm an cdv ct u0 u1 => by kernel_rfl
theorem bx10 : (Xd 10).2.bind := bind2 (by kernel_rfl) fun kV doc pm an cdv ct u0 u1 => by kernel_rfl
theorem bx11 : (Xd 11).2.bind := bind2 (by kernel_rfl) fun kV doc pm an cdv ct u0 u1 => by kernel_rfl
theorem bx12 : (Xd 12).2.bind := bind2 (by kernel_rfl) fun kV doc pm an cdv ct u0 u1 => by kernel_rfl
theorem bx13 : (Xd 13).2.bind := bind2 (by kernel_rfl) fun kV doc pm an cdv ct u0 u1 => by kernel_rfl
theorem bx14 : (Xd 14).2.bind := bind2 (by kernel_rfl) fun kV doc pm an cdv ct u0 u1 => by kernel_rfl
theorem bx15 : (Xd 15).2.bind := bind2 (by kernel_rfl) fun kV doc pm an cdv ct u0 u1 => by kernel_rfl
theorem bx16 : (Xd 16).2.bind := bind2 (by kernel_rfl) fun kV doc pm an cdv ct u0 u1 => by kernel_rfl
theorem bx17 : (Xd 17).2.bind := bind2 (by kernel_rfl) fun kV doc pm an cdv ct u0 u1 => by kernel_rfl
theorem bx18 : (Xd 18).2.bind := bind2 (by kernel_rfl) fun kV doc pm an cdv ct u0 u1 => by kernel_rfl
theorem bx19 : (Xd 19).2.bind := bind2 (by kernel_rfl) fun kV doc pm an cdv ct u0 u1 => by kernel_rfl
theorem bx20 : (Xd 20).2.bind := bind2 (by kernel_rfl) fun kV doc pm an cdv ct u0 u1 => by kernel_rfl
theorem bx21 : (Xd 21).2.bind := bind2 (by kernel_rfl) fun kV doc pm an cdv ct u0 u1 => by kernel_rfl
theorem bx22 : (Xd 22).2.bind := bind2 (by kernel_rfl) fun kV doc pm an cdv ct u0 u1 => by kernel_rfl
theorem dsE : ds = [D 0, D 1, D 2, D 3, D 4, D 5, D 6, D 7, D 8, D 9, D 10, D 11, D 12, D 13, D 14, D 15, D 16, D 17, D 18, D 19, D 20, D 21, D 22, D 23, D 24, D 25, D 26, D 27, D 28, D 29, D 30, D 31, D 32, D 33, D 34, D 35, D 36, D 37, D 38, D 39, D 40, D 41, D 42, D 43, D 44, D 45, D 46, D 47, D 48, D 49, D 50, D 51, D 52] := by kernel_rfl
theorem xsE : xs = [Xd 0, Xd 1, Xd 2, Xd 3, Xd 4, Xd 5, Xd 6, Xd 7, Xd 8, Xd 9, Xd 10, Xd 11, Xd 12, Xd 13, Xd 14, Xd 15, Xd 16, Xd 17, Xd 18, Xd 19, Xd 20, Xd 21, Xd 22] := by kernel_rfl
theorem bdA : ∀ d ∈ ds, d.bind := by
  rw [dsE]
  exact allB (⟨bd0, ⟨bd1, ⟨bd2, ⟨bd3, ⟨bd4, ⟨bd5, ⟨bd6, ⟨bd7, ⟨bd8, ⟨bd9, ⟨bd10, ⟨bd11, ⟨bd12, ⟨bd13, ⟨bd14, ⟨bd15, ⟨bd16, ⟨bd17, ⟨bd18, ⟨bd19, ⟨bd20, ⟨bd21, ⟨bd22, ⟨bd23, ⟨bd24, ⟨bd25, ⟨bd26, ⟨bd27, ⟨bd28, ⟨bd29, ⟨bd30, ⟨bd31, ⟨bd32, ⟨bd33, ⟨bd34, ⟨bd35, ⟨bd36, ⟨bd37, ⟨bd38, ⟨bd39, ⟨bd40, ⟨bd41, ⟨bd42, ⟨bd43, ⟨bd44, ⟨bd45, ⟨bd46, ⟨bd47, ⟨bd48, ⟨bd49, ⟨bd50, ⟨bd51, ⟨bd52, trivial⟩⟩⟩⟩⟩⟩⟩⟩⟩⟩⟩⟩⟩⟩⟩⟩⟩⟩⟩⟩⟩⟩⟩⟩⟩⟩⟩⟩⟩⟩⟩⟩⟩⟩⟩⟩⟩⟩⟩⟩⟩⟩⟩⟩⟩⟩⟩⟩⟩⟩⟩⟩⟩)
theorem bxA : ∀ p ∈ xs, p.2.bind := by
  rw [xsE]
  exact allX (⟨bx0, ⟨bx1, ⟨bx2, ⟨bx3, ⟨bx4, ⟨bx5, ⟨bx6, ⟨bx7, ⟨bx8, ⟨bx9, ⟨bx10, ⟨bx11, ⟨bx12, ⟨bx13, ⟨bx14, ⟨bx15, ⟨bx16, ⟨bx17, ⟨bx18, ⟨bx19, ⟨bx20, ⟨bx21, ⟨bx22, trivial⟩⟩⟩⟩⟩⟩⟩⟩⟩⟩⟩⟩⟩⟩⟩⟩⟩⟩⟩⟩⟩⟩⟩)
theorem pkE : (D 22).body = pickB pp := by kernel_rfl
theorem txt : Txt τ ds xs lams G pp 46 (D 46) where
  hG := hG
  gb := by kernel_rfl
  tx := by kernel_rfl
  ln := by kernel_rfl
  pk := pk_of (k := 22) (by kernel_rfl) (by kernel_rfl) pkE
  pl := by kernel_rfl
  bd := bdA
  bx := bxA
  at_ := by kernel_rfl
  cl := by kernel_rfl
  nm := by kernel_rfl
  ps := by kernel_rfl
  nt := by kernel_rfl
  fn := by kernel_rfl
  nc := by kernel_rfl
/-! the head -/
abbrev Rw : PySem.W.OpenRow := PySem.W.OpenLaw.row PySem.Challenge.rw_pressrecord_k10_lots_and_clear_presses
abbrev hk : PySem.W.Hook := hookA (asB 5) (allD ds xs) (tfOf lams ds) (exAll τ lams ds)
def ob (s : PySem.W.SharedT) : AlA := obsA (asB 5) (allD ds xs) (tfOf lams ds) (exAll τ lams ds) (HandSHeadRun.getT s)
theorem ob_eq (s : PySem.W.SharedT) : ob s = hk.obs s.abs := obsA_eq (HandSHeadRun.getT_eq s)
def loose : List PySem.Str := PySem.Challenge.pw_pressrecord_k10_lots_and_clear_presses.main.scope.names.filterMap fun p => match p.2 with
  | .local => if p.1 = S "law" then none else some p.1
  | _ => none
section
open PySem.W PySem.Calls HandSHeadRun
theorem runA (w : World) (os : OsState) : (HandSHeadRun.endF (HandSHeadRun.stepQ (HandSHeadRun.denQ HandSHeadRun.tabQ) Rw.prog w) 9000 Rw.prog w os).map (fun s => (looksF Rw.prog (boot_heap w.params) s.abs, seenQ (view Rw.prog [78]) loose (importedModules Rw.prog.main.body) (fun s => xlAt (view Rw.prog [78]) [] s && recOk Rw.toRowW.records s) s.abs)) = some (true, openGood (view Rw.prog [78]) loose) := by kernel_rfl
theorem runB (w : World) (os : OsState) : (HandSHeadRun.endF (HandSHeadRun.stepQ (HandSHeadRun.denQ HandSHeadRun.tabQ) Rw.prog w) 9000 Rw.prog w os).map (fun s => (allD ds xs).all fun d => d.ok (He.frT (HandSHeadRun.getT s) (asB 5 (HandSHeadRun.getT s)))) = some true := by kernel_rfl
theorem runC (w : World) (os : OsState) : (HandSHeadRun.endF (HandSHeadRun.stepQ (HandSHeadRun.denQ HandSHeadRun.tabQ) Rw.prog w) 9000 Rw.prog w os).map (fun s => fnWs (He.frT (HandSHeadRun.getT s) (asB 5 (HandSHeadRun.getT s))) (allD ds xs)) = some (valsW (allD ds xs)) := by kernel_rfl
theorem runD (w : World) (os : OsState) : (HandSHeadRun.endF (HandSHeadRun.stepQ (HandSHeadRun.denQ HandSHeadRun.tabQ) Rw.prog w) 9000 Rw.prog w os).map (fun s => exAll τ lams ds (He.frT (HandSHeadRun.getT s) (asB 5 (HandSHeadRun.getT s))) && He.tabsB (HandSHeadRun.getT s) (tfOf lams ds) (He.frT (HandSHeadRun.getT s) (asB 5 (HandSHeadRun.getT s)))) = some true := by kernel_rfl
end
theorem run (w : World) : HandSHeadRun.RunEq Rw (PySem.W.view Rw.prog [78]) hk ob 9000 loose w := fun os => run_join (runA w os) (runB w os) (runC w os) (runD w os)
theorem holds (N : Nat) (hr : L2.Room (N + 2) PySem.callerA) (main : ∀ (ns : List Int) (t : T), ns.length ≤ 63 → (t = .scr ns ∨ t = .lst (ns.map .int)) → ∃ d', callN Γ N 46 [t] none = some (.ok (false, .bl true), d')) : PySem.Challenge.rw_pressrecord_k10_lots_and_clear_presses.Holds := by
  w_on; o_law
  refine HandSHeadRun.head_any (r := PySem.W.OpenLaw.row PySem.Challenge.rw_pressrecord_k10_lots_and_clear_presses) (q := PySem.W.view (PySem.W.OpenLaw.row PySem.Challenge.rw_pressrecord_k10_lots_and_clear_presses).prog [78]) (H := hk) (ob := ob) (M := 9000) (loose := loose) (d := HandSHeadRun.topDef (PySem.W.OpenLaw.row PySem.Challenge.rw_pressrecord_k10_lots_and_clear_presses).prog 78) (kwd := []) ob_eq
    (by kernel_rfl) (fun s => by kernel_rfl) run (by kernel_rfl) (by kernel_rfl) (by kernel_rfl) (by rfl) (by first | assumption | decide +kernel) (by decide +kernel) ⟨rfl, rfl, rfl, rfl, rfl, by decide +kernel⟩ ?hw ?hc
  case hw => w_witness2
  case hc =>
    refine LamX.walk_ofTsE (l := PySem.Challenge.rw_pressrecord_k10_lots_and_clear_presses) (n := 63) (k := N + 2) (x := "script") (CX := fun w => L2.CX PySem.Challenge.rw_pressrecord_k10_lots_and_clear_presses.prog w) rfl (by decide) (by kernel_rfl) hr ?F (fun w H s e s' z => ?E)
    case F =>
      intro w mg fa h Y G hmg0
      obtain ⟨K, KX, c⟩ := Y
      have hmg : mg (S "law") = some (.ref fa) := by
        have e : (HandSHeadRun.topDef (PySem.W.OpenLaw.row PySem.Challenge.rw_pressrecord_k10_lots_and_clear_presses).prog 78).name = S "law" := by kernel_rfl
        rw [← e]
        exact hmg0
      exact ⟨K, KX, law_at txt KX G hmg c (by decide) main⟩
    case E => exact no_cx z
end Law
end PB
end
section
set_option Elab.async false
set_option linter.all false
set_option maxRecDepth 100000
/-! M1: the evaluator by rewriting. -/
namespace PB
namespace Law
open PySem L2
def fin : Option (Fl × Ev) → Option (Out R × Option Draw)
  | some (.next, e) => some (.ok (false, .non), e.d)
  | some (.ret r, e) => some (.ok r, e.d)
  | some (.exc c fs, e) => some (.exc c fs, e.d)
  | _ => none
@[simp] theorem fin_ret (r : R) (e : Ev) : fin (some (.ret r, e)) = some (.ok r, e.d) := rfl
@[simp] theorem fin_next (e : Ev) : fin (some (.next, e)) = some (.ok (false, .non), e.d) := rfl
@[simp] theorem fin_exc (c : Str) (fs : List (Str × T)) (e : Ev) : fin (some (.exc c fs, e)) = some (.exc c fs, e.d) := rfl
theorem call_b {Γ : List (Fd × Bool)} {n f ps m : Nat} {b : Bool} {body : List St} {ts : List T} {d : Option Draw} (h : Γ[f]? = some (.fn ps m body, b)) (hl : ts.length = ps) : callN Γ (n + costF (Fd.fn ps m body, b) + 1) f ts d = fin (sts (callN Γ n) body ⟨args ts m, d⟩) := by
  rw [callN_at h]
  simp only [runF, hl, if_true]
  cases sts (callN Γ n) body ⟨args ts m, d⟩ with
  | none => rfl
  | some z =>
    obtain ⟨fl, e⟩ := z
    cases fl <;> rfl
theorem call_fn {Γ : List (Fd × Bool)} {n f ps m : Nat} {body : List St} {ts : List T} {d : Option Draw} (h : Γ[f]? = some (.fn ps m body, false)) (hl : ts.length = ps) : callN Γ (n + 1) f ts d = fin (sts (callN Γ n) body ⟨args ts m, d⟩) := call_b h hl
theorem call_fnT {Γ : List (Fd × Bool)} {n f ps m : Nat} {body : List St} {ts : List T} {d : Option Draw} (h : Γ[f]? = some (.fn ps m body, true)) (hl : ts.length = ps) : callN Γ (n + 3) f ts d = fin (sts (callN Γ n) body ⟨args ts m, d⟩) := call_b h hl
theorem call_pick {Γ : List (Fd × Bool)} {n f : Nat} {ts : List T} {d : Option Draw} (h : Γ[f]? = some (.pick, false)) : callN Γ (n + 1) f ts d = runF (callN Γ n) .pick ts d := callN_at h n ts d
theorem call_start {Γ : List (Fd × Bool)} {n f : Nat} {ts : List T} {d : Option Draw} (h : Γ[f]? = some (.start, false)) : callN Γ (n + 1) f ts d = runF (callN Γ n) .start ts d := callN_at h n ts d
section
variable {C : Orc}
@[simp] theorem bnd_def {α β : Type} (m : M α) (k : α → M β) (e : Ev) : bnd m k e = match m e with
  | none => none
  | some (.ok a, e') => k a e'
  | some (.exc C fs, e') => some (.exc C fs, e') := rfl
@[simp] theorem tob_def {α : Type} (m : M α) (k : α → SM) (e : Ev) : tob m k e = match m e with
  | none => none
  | some (.ok a, e') => k a e'
  | some (.exc C fs, e') => some (.exc C fs, e') := rfl
@[simp] theorem seqM_def (a b : SM) (e : Ev) : seqM a b e = match a e with
  | some (.next, e') => b e'
  | r => r := rfl
@[simp] theorem ret_def {α : Type} (a : α) (e : Ev) : ret a e = some (.ok a, e) := rfl
@[simp] theorem opt_some' {α : Type} (a : α) (e : Ev) : opt (some a) e = some (.ok a, e) := rfl
@[simp] theorem opt_none' {α : Type} (e : Ev) : (opt (none : Option α) e) = none := rfl
@[simp] theorem chk_t (e : Ev) : chk true e = some (.ok (), e) := rfl
@[simp] theorem sts_nil : sts C [] = nxt := rfl
@[simp] theorem nxt_def (e : Ev) : nxt e = some (.next, e) := rfl
@[simp] theorem sts_cons (s : St) (ss : List St) : sts C (s :: ss) = seqM (st C s) (sts C ss) := rfl
@[simp] theorem rd_def (i : Nat) (e : Ev) : rd i e = match e.s[i]? with
  | some (some r) => some (.ok r, e)
  | _ => none := rfl
@[simp] theorem gd_var (i : Nat) (q : Bool) : gd (.var i) q = chk q := by simp [gd, Ex.isVar]
@[simp] theorem rdm_var (i : Nat) (m : M R) : rdm (.var i) m = bnd (rd i) fun r => ret r.2 := rfl
@[simp] theorem tsm_def (e : Ex) (m : M R) : tsm e m = bnd (rdm e m) fun t => opt t.tru := rfl
@[simp] theorem tru_bl (b : Bool) : T.tru (.bl b) = some b := rfl
@[simp] theorem tru_int (i : Int) : T.tru (.int i) = some (i != 0) := rfl
@[simp] theorem tru_lst (l : List T) : T.tru (.lst l) = some (!l.isEmpty) := rfl
@[simp] theorem lightM_bl (b : Bool) : lightM (.bl b) = ret (false, .bl b) := rfl
@[simp] theorem gd_con (t : T) (q : Bool) : gd (.con t) q = chk true := rfl
@[simp] theorem rdm_con (t : T) (mm : M R) : rdm (.con t) mm = bnd mm fun r => ret r.2 := rfl
@[simp] theorem gd_bin (o : Bop) (a b : Ex) (q : Bool) : gd (.bin o a b) q = chk true := rfl
@[simp] theorem rdm_bin (o : Bop) (a b : Ex) (mm : M R) : rdm (.bin o a b) mm = bnd mm fun r => ret r.2 := rfl
@[simp] theorem gd_neg (a : Ex) (q : Bool) : gd (.neg a) q = chk true := rfl
@[simp] theorem rdm_neg (a : Ex) (mm : M R) : rdm (.neg a) mm = bnd mm fun r => ret r.2 := rfl
@[simp] theorem gd_cmp (o : Cop) (a b : Ex) (q : Bool) : gd (.cmp o a b) q = chk true := rfl
@[simp] theorem rdm_cmp (o : Cop) (a b : Ex) (mm : M R) : rdm (.cmp o a b) mm = bnd mm fun r => ret r.2 := rfl
@[simp] theorem gd_chain (o p : Cop) (a b c : Ex) (q : Bool) : gd (.chain o p a b c) q = chk true := rfl
@[simp] theorem rdm_chain (o p : Cop) (a b c : Ex) (mm : M R) : rdm (.chain o p a b c) mm = bnd mm fun r => ret r.2 := rfl
@[simp] theorem gd_and (es : List Ex) (q : Bool) : gd (.and es) q = chk true := rfl
@[simp] theorem rdm_and (es : List Ex) (mm : M R) : rdm (.and es) mm = bnd mm fun r => ret r.2 := rfl
@[simp] theorem gd_or (es : List Ex) (q : Bool) : gd (.or es) q = chk true := rfl
@[simp] theorem rdm_or (es : List Ex) (mm : M R) : rdm (.or es) mm = bnd mm fun r => ret r.2 := rfl
@[simp] theorem gd_not (a : Ex) (q : Bool) : gd (.not a) q = chk true := rfl
@[simp] theorem rdm_not (a : Ex) (mm : M R) : rdm (.not a) mm = bnd mm fun r => ret r.2 := rfl
@[simp] theorem gd_ife (c a b : Ex) (q : Bool) : gd (.ife c a b) q = chk true := rfl
@[simp] theorem rdm_ife (c a b : Ex) (mm : M R) : rdm (.ife c a b) mm = bnd mm fun r => ret r.2 := rfl
@[simp] theorem gd_lst (es : List Ex) (q : Bool) : gd (.lst es) q = chk true := rfl
@[simp] theorem rdm_lst (es : List Ex) (mm : M R) : rdm (.lst es) mm = bnd mm fun r => ret r.2 := rfl
@[simp] theorem gd_tup (es : List Ex) (q : Bool) : gd (.tup es) q = chk true := rfl
@[simp] theorem rdm_tup (es : List Ex) (mm : M R) : rdm (.tup es) mm = bnd mm fun r => ret r.2 := rfl
@[simp] theorem gd_dnew (t : Bool) (q : Bool) : gd (.dnew t) q = chk true := rfl
@[simp] theorem rdm_dnew (t : Bool) (mm : M R) : rdm (.dnew t) mm = bnd mm fun r => ret r.2 := rfl
@[simp] theorem gd_call (f : Nat) (es : List Ex) (q : Bool) : gd (.call f es) q = chk true := rfl
@[simp] theorem rdm_call (f : Nat) (es : List Ex) (mm : M R) : rdm (.call f es) mm = bnd mm fun r => ret r.2 := rfl
@[simp] theorem gd_meth (o : Ex) (Cn m : Str) (f : Nat) (es : List Ex) (q : Bool) : gd (.meth o Cn m f es) q = chk true := rfl
@[simp] theorem rdm_meth (o : Ex) (Cn m : Str) (f : Nat) (es : List Ex) (mm : M R) : rdm (.meth o Cn m f es) mm = bnd mm fun r => ret r.2 := rfl
@[simp] theorem gd_p1 (p : P1) (a : Ex) (q : Bool) : gd (.p1 p a) q = chk true := rfl
@[simp] theorem rdm_p1 (p : P1) (a : Ex) (mm : M R) : rdm (.p1 p a) mm = bnd mm fun r => ret r.2 := rfl
@[simp] theorem gd_p2 (p : P2) (a b : Ex) (q : Bool) : gd (.p2 p a b) q = chk true := rfl
@[simp] theorem rdm_p2 (p : P2) (a b : Ex) (mm : M R) : rdm (.p2 p a b) mm = bnd mm fun r => ret r.2 := rfl
@[simp] theorem gd_isi (a : Ex) (cs : List Cl) (q : Bool) : gd (.isi a cs) q = chk true := rfl
@[simp] theorem rdm_isi (a : Ex) (cs : List Cl) (mm : M R) : rdm (.isi a cs) mm = bnd mm fun r => ret r.2 := rfl
@[simp] theorem gd_fld (o : Ex) (f : Str) (q : Bool) : gd (.fld o f) q = chk true := rfl
@[simp] theorem rdm_fld (o : Ex) (f : Str) (mm : M R) : rdm (.fld o f) mm = bnd mm fun r => ret r.2 := rfl
@[simp] theorem gd_ix (a i : Ex) (q : Bool) : gd (.ix a i) q = chk true := rfl
@[simp] theorem rdm_ix (a i : Ex) (mm : M R) : rdm (.ix a i) mm = bnd mm fun r => ret r.2 := rfl
@[simp] theorem gd_sl (a : Ex) (lo hi : Option Ex) (q : Bool) : gd (.sl a lo hi) q = chk true := rfl
@[simp] theorem rdm_sl (a : Ex) (lo hi : Option Ex) (mm : M R) : rdm (.sl a lo hi) mm = bnd mm fun r => ret r.2 := rfl
@[simp] theorem gd_rev (a : Ex) (q : Bool) : gd (.rev a) q = chk true := rfl
@[simp] theorem rdm_rev (a : Ex) (mm : M R) : rdm (.rev a) mm = bnd mm fun r => ret r.2 := rfl
@[simp] theorem gd_lrng (a : Ex) (q : Bool) : gd (.lrng a) q = chk true := rfl
@[simp] theorem rdm_lrng (a : Ex) (mm : M R) : rdm (.lrng a) mm = bnd mm fun r => ret r.2 := rfl
@[simp] theorem gd_lrng2 (a b : Ex) (q : Bool) : gd (.lrng2 a b) q = chk true := rfl
@[simp] theorem rdm_lrng2 (a b : Ex) (mm : M R) : rdm (.lrng2 a b) mm = bnd mm fun r => ret r.2 := rfl
@[simp] theorem gd_get1 (d k : Ex) (q : Bool) : gd (.get1 d k) q = chk true := rfl
@[simp] theorem rdm_get1 (d k : Ex) (mm : M R) : rdm (.get1 d k) mm = bnd mm fun r => ret r.2 := rfl
@[simp] theorem gd_get2 (d k z : Ex) (q : Bool) : gd (.get2 d k z) q = chk true := rfl
@[simp] theorem rdm_get2 (d k z : Ex) (mm : M R) : rdm (.get2 d k z) mm = bnd mm fun r => ret r.2 := rfl
@[simp] theorem gd_mut (i : Nat) (m : Mu) (es : List Ex) (q : Bool) : gd (.mut i m es) q = chk true := rfl
@[simp] theorem rdm_mut (i : Nat) (m : Mu) (es : List Ex) (mm : M R) : rdm (.mut i m es) mm = bnd mm fun r => ret r.2 := rfl
@[simp] theorem gd_comp (elt : Ex) (own : List Nat) (g : Tg) (it : It) (ifs : List Ex) (q : Bool) : gd (.comp elt own g it ifs) q = chk true := rfl
@[simp] theorem rdm_comp (elt : Ex) (own : List Nat) (g : Tg) (it : It) (ifs : List Ex) (mm : M R) : rdm (.comp elt own g it ifs) mm = bnd mm fun r => ret r.2 := rfl
@[simp] theorem gd_dcomp (b : Bool) (k v : Ex) (own : List Nat) (g : Tg) (it : It) (ifs : List Ex) (q : Bool) : gd (.dcomp b k v own g it ifs) q = chk true := rfl
@[simp] theorem rdm_dcomp (b : Bool) (k v : Ex) (own : List Nat) (g : Tg) (it : It) (ifs : List Ex) (mm : M R) : rdm (.dcomp b k v own g it ifs) mm = bnd mm fun r => ret r.2 := rfl
@[simp] theorem gd_told (l : Bool) (b : Ex) (hs : List (Str × List Str × Str)) (q : Bool) : gd (.told l b hs) q = chk true := rfl
@[simp] theorem rdm_told (l : Bool) (b : Ex) (hs : List (Str × List Str × Str)) (mm : M R) : rdm (.told l b hs) mm = bnd mm fun r => ret r.2 := rfl
@[simp] theorem e_var (i : Nat) : ev C (.var i) = fun e => match e.s[i]? with
    | some (some (_, t)) => some (.ok (false, t), { e with s := frz1 i e.s })
    | _ => none := by
  funext e
  first | (simp only [ev]; done) | (simp only [ev]; rfl)
@[simp] theorem e_con (t : T) : ev C (.con t) = ret (false, t) := by
  funext e
  first | (simp only [ev]; done) | (simp only [ev]; rfl)
@[simp] theorem e_bin (o : Bop) (a b : Ex) : ev C (.bin o a b) = bnd (gd a b.quiet) fun _ => bnd (rdm a (ev C a)) fun x => bnd (rdm b (ev C b)) fun y => opt (binT o x y) := by
  funext e
  first | (simp only [ev]; done) | (simp only [ev]; rfl)
@[simp] theorem e_neg (a : Ex) : ev C (.neg a) = bnd (rdm a (ev C a)) fun x => opt ((toInt x).map fun i => (false, .int (-i))) := by
  funext e
  first | (simp only [ev]; done) | (simp only [ev]; rfl)
@[simp] theorem e_cmp (o : Cop) (a b : Ex) : ev C (.cmp o a b) = bnd (gd a b.quiet) fun _ => bnd (rdm a (ev C a)) fun x => bnd (rdm b (ev C b)) fun y => opt ((cmpT o x y).map fun k => (false, .bl k)) := by
  funext e
  first | (simp only [ev]; done) | (simp only [ev]; rfl)
@[simp] theorem e_chain (o p : Cop) (a b c : Ex) : ev C (.chain o p a b c) = bnd (gd a b.quiet) fun _ => bnd (gd b c.quiet) fun _ => bnd (rdm a (ev C a)) fun x => bnd (rdm b (ev C b)) fun y => bnd (opt (cmpT o x y)) fun k =>
      if k then bnd (rdm c (ev C c)) fun z => opt ((cmpT p y z).map fun k => (false, .bl k)) else ret (false, .bl false) := by
  funext e
  first | (simp only [ev]; done) | (simp only [ev]; rfl)
@[simp] theorem e_and (es : List Ex) : ev C (.and es) = evAnd C es := by
  funext e
  first | (simp only [ev]; done) | (simp only [ev]; rfl)
@[simp] theorem e_or (es : List Ex) : ev C (.or es) = evOr C es := by
  funext e
  first | (simp only [ev]; done) | (simp only [ev]; rfl)
@[simp] theorem e_not (a : Ex) : ev C (.not a) = bnd (tsm a (ev C a)) fun k => ret (false, .bl (!k)) := by
  funext e
  first | (simp only [ev]; done) | (simp only [ev]; rfl)
@[simp] theorem e_ife (c a b : Ex) : ev C (.ife c a b) = bnd (tsm c (ev C c)) fun k => if k then ev C a else ev C b := by
  funext e
  first | (simp only [ev]; done) | (simp only [ev]; rfl)
@[simp] theorem e_lst (es : List Ex) : ev C (.lst es) = bnd (evs C es) fun ts => bnd (chk (decide (ts.length ≤ sizeLine))) fun _ => ret (true, .lst ts) := by
  funext e
  first | (simp only [ev]; done) | (simp only [ev]; rfl)
@[simp] theorem e_tup (es : List Ex) : ev C (.tup es) = bnd (evs C es) fun ts => bnd (chk (decide (ts.length ≤ sizeLine))) fun _ => ret (false, .tup ts) := by
  funext e
  first | (simp only [ev]; done) | (simp only [ev]; rfl)
@[simp] theorem e_dnew (t : Bool) : ev C (.dnew t) = ret (true, if t then .dT [] else .dK []) := by
  funext e
  first | (simp only [ev]; done) | (simp only [ev]; rfl)
@[simp] theorem e_call (f : Nat) (es : List Ex) : ev C (.call f es) = bnd (evRs C es) fun ts => callO C f es ts := by
  funext e
  first | (simp only [ev]; done) | (simp only [ev]; rfl)
@[simp] theorem e_meth (o : Ex) (Cn m : Str) (f : Nat) (es : List Ex) : ev C (.meth o Cn m f es) = bnd (gd o (Ex.quiets es)) fun _ => bnd (rdm o (ev C o)) fun x => bnd (chk (isIns Cn m x)) fun _ => bnd (evRs C es) fun ts => callO C f (o :: es) (x :: ts) := by
  funext e
  first | (simp only [ev]; done) | (simp only [ev]; rfl)
@[simp] theorem e_p1 (p : P1) (a : Ex) : ev C (.p1 p a) = bnd (rdm a (ev C a)) fun x => opt (prim1 p x) := by
  funext e
  first | (simp only [ev]; done) | (simp only [ev]; rfl)
@[simp] theorem e_p2 (p : P2) (a b : Ex) : ev C (.p2 p a b) = bnd (gd a b.quiet) fun _ => bnd (rdm a (ev C a)) fun x => bnd (rdm b (ev C b)) fun y => opt (prim2 p x y) := by
  funext e
  first | (simp only [ev]; done) | (simp only [ev]; rfl)
@[simp] theorem e_isi (a : Ex) (cs : List Cl) : ev C (.isi a cs) = bnd (rdm a (ev C a)) fun x => opt ((x.isis cs).map fun k => (false, .bl k)) := by
  funext e
  first | (simp only [ev]; done) | (simp only [ev]; rfl)
@[simp] theorem e_fld (o : Ex) (f : Str) : ev C (.fld o f) = bnd (rdm o (ev C o)) fun x => opt ((fldT x f).map fun t => (false, t)) := by
  funext e
  first | (simp only [ev]; done) | (simp only [ev]; rfl)
@[simp] theorem e_ix (a i : Ex) : ev C (.ix a i) = bnd (gd a i.quiet) fun _ => bnd (rdm a (ev C a)) fun x => bnd (rdm i (ev C i)) fun y => opt ((ixT x y).map fun t => (false, t)) := by
  funext e
  first | (simp only [ev]; done) | (simp only [ev]; rfl)
@[simp] theorem e_sl (a : Ex) (lo hi : Option Ex) : ev C (.sl a lo hi) = bnd (gd a (exQ lo && exQ hi)) fun _ => bnd (rdm a (ev C a)) fun x => bnd (evO C lo) fun l => bnd (evO C hi) fun h => opt (slT x l h) := by
  funext e
  first | (simp only [ev]; done) | (simp only [ev]; rfl)
@[simp] theorem e_rev (a : Ex) : ev C (.rev a) = bnd (rdm a (ev C a)) fun x => opt (match x with | .lst xs => some (true, .lst xs.reverse) | _ => none) := by
  funext e
  first | (simp only [ev]; done) | (simp only [ev]; rfl)
@[simp] theorem e_lrng (a : Ex) : ev C (.lrng a) = bnd (rdm a (ev C a)) fun x => opt ((toInt x).bind fun n => if okR n && decide (n ≤ sizeLine) then some (true, .lst (rngL 0 n)) else none) := by
  funext e
  first | (simp only [ev]; done) | (simp only [ev]; rfl)
@[simp] theorem e_lrng2 (a b : Ex) : ev C (.lrng2 a b) = bnd (rdm a (ev C a)) fun x => bnd (rdm b (ev C b)) fun y => opt ((toInt x).bind fun m => (toInt y).bind fun n => if okR m && okR n && decide (n - m ≤ sizeLine) then some (true, .lst (rngL m n)) else none) := by
  funext e
  first | (simp only [ev]; done) | (simp only [ev]; rfl)
@[simp] theorem e_get1 (d k : Ex) : ev C (.get1 d k) = bnd (gd d k.quiet) fun _ => bnd (rdm d (ev C d)) fun x => bnd (chk x.isD) fun _ => bnd (rdm k (ev C k)) fun y => opt ((dgetT x y).map fun o => (false, o.getD .non)) := by
  funext e
  first | (simp only [ev]; done) | (simp only [ev]; rfl)
@[simp] theorem e_get2 (d k z : Ex) : ev C (.get2 d k z) = bnd (gd d (k.quiet && z.quiet)) fun _ => bnd (gd k z.quiet) fun _ => bnd (rdm d (ev C d)) fun x => bnd (chk x.isD) fun _ => bnd (rdm k (ev C k)) fun y => bnd (ev C z) fun z => opt ((dgetT x y).map fun o => (false, o.getD z.2)) := by
  funext e
  first | (simp only [ev]; done) | (simp only [ev]; rfl)
@[simp] theorem e_mut (i : Nat) (m : Mu) (es : List Ex) : ev C (.mut i m es) = bnd (isLst i) fun _ => bnd (evs C es) fun ts => mutS i m ts := by
  funext e
  first | (simp only [ev]; done) | (simp only [ev]; rfl)
@[simp] theorem evs_nil : evs C [] = ret [] := by funext e; first | (simp only [evs]; done) | (simp only [evs]; rfl)
@[simp] theorem evs_cons (e : Ex) (es : List Ex) : evs C (e :: es) = bnd (ev C e) fun r => bnd (evs C es) fun ts => ret (r.2 :: ts) := by funext v; first | (simp only [evs]; done) | (simp only [evs]; rfl)
@[simp] theorem evRs_nil : evRs C [] = ret [] := by funext e; first | (simp only [evRs]; done) | (simp only [evRs]; rfl)
@[simp] theorem evRs_cons (e : Ex) (es : List Ex) : evRs C (e :: es) = bnd (gd e (Ex.quiets es)) fun _ => bnd (rdm e (ev C e)) fun t => bnd (evRs C es) fun ts => ret (t :: ts) := by funext v; first | (simp only [evRs]; done) | (simp only [evRs]; rfl)
@[simp] theorem evP_nil : evP C [] = ret [] := by funext e; first | (simp only [evP]; done) | (simp only [evP]; rfl)
@[simp] theorem evP_cons (e : Ex) (es : List Ex) : evP C (e :: es) = bnd (ev C e) fun r => bnd (evP C es) fun rs => ret (r :: rs) := by funext v; first | (simp only [evP]; done) | (simp only [evP]; rfl)
@[simp] theorem evAnd_1 (e : Ex) : evAnd C [e] = ev C e := by funext v; first | (simp only [evAnd]; done) | (simp only [evAnd]; rfl)
@[simp] theorem evAnd_2 (e e2 : Ex) (es : List Ex) : evAnd C (e :: e2 :: es) = bnd (rdm e (ev C e)) fun t => bnd (opt t.tru) fun k => if k then evAnd C (e2 :: es) else lightM t := by funext v; first | (simp only [evAnd]; done) | (simp only [evAnd]; rfl)
@[simp] theorem evOr_1 (e : Ex) : evOr C [e] = ev C e := by funext v; first | (simp only [evOr]; done) | (simp only [evOr]; rfl)
@[simp] theorem evOr_2 (e e2 : Ex) (es : List Ex) : evOr C (e :: e2 :: es) = bnd (rdm e (ev C e)) fun t => bnd (opt t.tru) fun k => if k then lightM t else evOr C (e2 :: es) := by funext v; first | (simp only [evOr]; done) | (simp only [evOr]; rfl)
@[simp] theorem tsts_nil : tsts C [] = ret true := by funext v; first | (simp only [tsts]; done) | (simp only [tsts]; rfl)
@[simp] theorem tsts_cons (e : Ex) (es : List Ex) : tsts C (e :: es) = bnd (tsm e (ev C e)) fun k => if k then tsts C es else ret false := by funext v; first | (simp only [tsts]; done) | (simp only [tsts]; rfl)
@[simp] theorem evO_none : evO C none = ret none := by funext v; first | (simp only [evO]; done) | (simp only [evO]; rfl)
@[simp] theorem evO_some (e : Ex) : evO C (some e) = bnd (rdm e (ev C e)) fun x => bnd (opt (toInt x)) fun i => ret (some i) := by funext v; first | (simp only [evO]; done) | (simp only [evO]; rfl)
@[simp] theorem itL_seq (e : Ex) : itL C (.seq e) = bnd (ev C e) fun r => opt (seqS r.2) := by funext v; first | (simp only [itL]; done) | (simp only [itL]; rfl)
@[simp] theorem itL_rng (a : Ex) : itL C (.rng a) = bnd (rdm a (ev C a)) fun x => opt ((toInt x).bind fun n => if okR n then some (rngL 0 n) else none) := by funext v; first | (simp only [itL]; done) | (simp only [itL]; rfl)
@[simp] theorem itL_enum (e : Ex) : itL C (.enum e) = bnd (ev C e) fun r => opt ((seqOf r.2).map enumL) := by funext v; first | (simp only [itL]; done) | (simp only [itL]; rfl)
@[simp] theorem itL_zip (a b : Ex) : itL C (.zip a b) = bnd (ev C a) fun r => bnd (ev C b) fun q => opt (if sameKind r.2 q.2 then (seqOf r.2).bind fun xs => (seqOf q.2).map fun ys => (xs.zip ys).map pairT else none) := by funext v; first | (simp only [itL]; done) | (simp only [itL]; rfl)
@[simp] theorem s_asg (g : Tg) (e : Ex) : st C (.asg g e) = tob (ev C e) fun r => slots (asgR g r) := by funext v; first | (simp only [st]; done) | (simp only [st]; rfl)
@[simp] theorem s_par (is : List Nat) (es : List Ex) : st C (.par is es) = tob (evP C es) fun rs => slots (setAll is rs) := by funext v; first | (simp only [st]; done) | (simp only [st]; rfl)
@[simp] theorem s_put (i : Nat) (k e : Ex) : st C (.put i k e) = tob (ev C e) fun v => tob (rd i) fun _ => tob (rdm k (ev C k)) fun k => putS i k v.2 := by funext v; first | (simp only [st]; done) | (simp only [st]; rfl)
@[simp] theorem s_fld' (i : Nat) (f : Str) (e : Ex) : st C (.fld i f e) = tob (ev C e) fun v => tob (rd i) fun _ => fldS i f v.2 := by funext v; first | (simp only [st]; done) | (simp only [st]; rfl)
@[simp] theorem s_ex (e : Ex) : st C (.ex e) = tob (ev C e) fun _ => nxt := by funext v; first | (simp only [st]; done) | (simp only [st]; rfl)
@[simp] theorem s_ife (c : Ex) (a b : List St) : st C (.ife c a b) = tob (tsm c (ev C c)) fun k => if k then sts C a else sts C b := by funext v; first | (simp only [st]; done) | (simp only [st]; rfl)
@[simp] theorem s_ret (e : Ex) : st C (.ret e) = retV e (ev C e) := by funext v; first | (simp only [st]; done) | (simp only [st]; rfl)
theorem s_for (g : Tg) (it : It) (b : List St) : st C (.for g it b) = fun e => match dictAt it e.s with
    | some (i, xs) => noExS (forL g (sts C b) xs) { e with s := frz1 i e.s }
    | none => tob (itL C it) (fun xs => forL g (sts C b) xs) e := by funext v; first | (simp only [st]; done) | (simp only [st]; rfl)
@[simp] theorem s_rse (X : Str) (fs : List Str) (es : List Ex) : st C (.rse X fs es) = tob (evs C es) fun ts => fun e => if fs.length = ts.length then some (.exc X (fs.zip ts), e) else none := by funext v; first | (simp only [st]; done) | (simp only [st]; rfl)
@[simp] theorem ite_app {α β : Type} (c : Prop) [Decidable c] (f g : α → β) (x : α) : (if c then f else g) x = if c then f x else g x := by split <;> rfl
@[simp] theorem slots_def (f : List (Option R) → Option (List (Option R))) (e : Ev) : slots f e = (f e.s).map fun s => (.next, { e with s := s }) := rfl
end
end Law
end PB
end
section
set_option Elab.async false
set_option linter.all false
set_option maxRecDepth 100000
/-! M2: values by rewriting. -/
namespace PB
namespace Law
open PySem L2
abbrev tS (l : List Str) : T := .lst (l.map .str)
abbrev tU (l : List Str) : T := .tup (l.map .str)
theorem flat_strs (l : List Str) : (l.map T.str).all T.flat = true := by
  rw [List.all_eq_true]
  intro x hx
  obtain ⟨s, _, rfl⟩ := List.mem_map.mp hx
  rfl
theorem any_strs (l : List Str) (x : Str) : ((l.map T.str).any fun z => eqF z (.str x)) = decide (x ∈ l) := by
  induction l with
  | nil => simp
  | cons a l ih =>
    have e : eqF (.str a) (.str x) = (a == x) := rfl
    rw [List.map_cons, List.any_cons, ih, e]
    by_cases h : a = x
    · subst h; simp
    · have : (a == x) = false := by simpa using h
      simp [this, Ne.symm h]
@[simp] theorem inT_strs (l : List Str) (x : Str) : inT (.str x) (.lst (l.map .str)) = some (decide (x ∈ l)) := by
  simp only [inT, flat_strs, T.flat, Bool.and_self, if_true, any_strs]
@[simp] theorem inT_strsU (l : List Str) (x : Str) : inT (.str x) (.tup (l.map .str)) = some (decide (x ∈ l)) := by
  simp only [inT, flat_strs, T.flat, Bool.and_self, if_true, any_strs]
@[simp] theorem frz1_get' (i : Nat) (s : List (Option R)) (t : T) (h : s[i]? = some (some (false, t))) : frz1 i s = s := by
  unfold frz1
  rw [h]
/-- draws: so many may follow -/
structure Dok (d : Draw) (n : Nat) : Prop where
  a : 0 ≤ d.a
  b : 0 ≤ d.b
  c : 0 ≤ d.c
  c2 : d.c < 2147483648
  n : d.b + n ≤ 1099511627776
theorem Dok.le {d : Draw} {m n : Nat} (h : Dok d n) (l : m ≤ n) : Dok d m := ⟨h.a, h.b, h.c, h.c2, by have := h.n; omega⟩
theorem mix_le (c x : Int) : 0 ≤ mixC c x ∧ mixC c x < 2147483648 := by
  unfold mixC
  omega
theorem fillD_ok : ∀ (cs : List Int) (a c : Int), 0 ≤ a → 0 ≤ c → c < 2147483648 → 0 ≤ (fillD cs a c).2.1 ∧ 0 ≤ (fillD cs a c).2.2 ∧ (fillD cs a c).2.2 < 2147483648
  | [], a, c, h1, h2, h3 => ⟨h1, h2, h3⟩
  | x :: xs, a, c, h1, h2, h3 => by
    unfold fillD
    split
    · refine fillD_ok xs _ _ ?_ (mix_le _ _).1 (mix_le _ _).2
      split <;> omega
    · exact ⟨h1, h2, h3⟩
theorem pick_some {d : Draw} {n : Nat} {many : Int} (h : Dok d (n + 1)) (h1 : 0 < many) (h2 : many < 1073741824) : ∃ v d', pickD d many = some (v, d') ∧ 0 ≤ v ∧ v < many ∧ Dok d' n := by
  obtain ⟨ha, hb, hc, hc2, hn⟩ := h
  have z := fillD_ok d.cs d.a d.c ha hc hc2
  have hn' : d.b + n + 1 ≤ 1099511627776 := by omega
  unfold pickD
  have e : (decide (0 < many) && decide (many < 1073741824) && decide (0 ≤ d.b) && decide (d.b < 2 ^ 40) && decide (0 ≤ d.c) && decide (d.c < 2 ^ 31) && decide (0 ≤ d.a)) = true := by
    simp only [Bool.and_eq_true, decide_eq_true_eq]
    refine ⟨⟨⟨⟨⟨⟨h1, h2⟩, hb⟩, ?_⟩, hc⟩, hc2⟩, ha⟩
    omega
  rw [if_pos e]
  obtain ⟨cs, a, c, hf⟩ : ∃ cs a c, fillD d.cs d.a d.c = (cs, a, c) := ⟨_, _, _, rfl⟩
  rw [hf] at z ⊢
  simp only at z ⊢
  by_cases hp : 0 < a
  · rw [if_pos hp]
    refine ⟨_, _, rfl, Int.emod_nonneg _ (by omega), Int.emod_lt_of_pos _ h1, Int.ediv_nonneg z.1 (by omega), by show 0 ≤ d.b + 1; omega, z.2.1, z.2.2, by show d.b + 1 + (n : Int) ≤ _; omega⟩
  · rw [if_neg hp]
    refine ⟨_, _, rfl, ?_, ?_, z.1, by show 0 ≤ d.b + 1; omega, z.2.1, z.2.2, by show d.b + 1 + (n : Int) ≤ _; omega⟩
    · unfold drawn; exact Int.emod_nonneg _ (by omega)
    · unfold drawn; exact Int.emod_lt_of_pos _ h1
/-! == -/
@[simp] theorem eqT_int (i j : Int) : eqT (.int i) (.int j) = some (decide (i = j)) := by
  simp only [eqT, T.py, SeqAt.shaped, PyData.canLay0, PyData.depth, PyData.eqv, Bool.true_and, Bool.and_self]
  rw [if_pos (by simp)]
  congr 1
@[simp] theorem eqT_bl (i j : Bool) : eqT (.bl i) (.bl j) = some (decide (i = j)) := by
  cases i <;> cases j <;> rfl
@[simp] theorem eqT_str {a b : Str} (ha : PyData.strOk a = true) (hb : PyData.strOk b = true) : eqT (.str a) (.str b) = some (decide (a = b)) := by
  simp only [eqT, T.py, SeqAt.shaped, PyData.canLay0, PyData.depth, PyData.eqv, ha, hb]
  rw [if_pos (by simp)]
  congr 1
theorem pys_strs (l : List Str) : T.pys (l.map T.str) = some (l.map PyData.str) := by
  induction l with
  | nil => rfl
  | cons a l ih => simp [T.pys, T.py, ih]
theorem lay_strs (l : List Str) (h : ∀ x ∈ l, PyData.strOk x = true) : PyData.canLayAll0 (l.map PyData.str) = true ∧ PyData.depthAll (l.map PyData.str) = 0 := by
  induction l with
  | nil => exact ⟨rfl, rfl⟩
  | cons a l ih =>
    obtain ⟨h1, h2⟩ := ih fun x hx => h x (List.mem_cons_of_mem _ hx)
    simp only [List.map_cons, PyData.canLayAll0, PyData.canLay0, PyData.depthAll, PyData.depth, h1, h2, h a List.mem_cons_self, Bool.and_self, Nat.max_self, and_self]
theorem eqv_strs (a b : List Str) : PyData.eqvAll (a.map PyData.str) (b.map PyData.str) = decide (a = b) := by
  induction a generalizing b with
  | nil => cases b <;> rfl
  | cons x a ih =>
    cases b with
    | nil => rfl
    | cons y b =>
      simp only [List.map_cons, PyData.eqvAll, PyData.eqv, ih]
      by_cases h : x = y
      · subst h; simp
      · have : (x == y) = false := by simpa using h
        simp [this, h]
theorem eqT_strs {a b : List Str} (ha : ∀ x ∈ a, PyData.strOk x = true) (hb : ∀ x ∈ b, PyData.strOk x = true) : eqT (.lst (a.map .str)) (.lst (b.map .str)) = some (decide (a = b)) := by
  obtain ⟨h1, h2⟩ := lay_strs a ha
  obtain ⟨h3, h4⟩ := lay_strs b hb
  simp only [eqT, T.py, pys_strs, Option.map_some, SeqAt.shaped, PyData.canLay0, PyData.depth, PyData.eqv, h1, h2, h3, h4, eqv_strs]
  rw [if_pos (by simp)]
theorem eqT_pair {a b x y : Str} (h1 : PyData.strOk a = true) (h2 : PyData.strOk b = true) (h3 : PyData.strOk x = true) (h4 : PyData.strOk y = true) : eqT (.tup [.str a, .str b]) (.tup [.str x, .str y]) = some (decide (a = x ∧ b = y)) := by
  simp only [eqT, T.py, T.pys, Option.map_some, SeqAt.shaped, PyData.canLay0, PyData.canLayAll0, PyData.depth, PyData.depthAll, PyData.eqv, PyData.eqvAll, h1, h2, h3, h4]
  rw [if_pos (by simp)]
  congr 1
  by_cases c1 : a = x <;> by_cases c2 : b = y <;> simp [c1, c2]
theorem eqT_non_pair {x y : Str} (h3 : PyData.strOk x = true) (h4 : PyData.strOk y = true) : eqT .non (.tup [.str x, .str y]) = some false := by
  simp only [eqT, T.py, T.pys, Option.map_some, SeqAt.shaped, PyData.canLay0, PyData.canLayAll0, PyData.depth, PyData.depthAll, PyData.eqv, PyData.eqvAll, h3, h4]
  rw [if_pos (by simp)]
theorem strOk_of {x : Str} (h : ∀ c ∈ x.cps.toList, c < 0x110000) : PyData.strOk x = true := by
  unfold PyData.strOk
  rw [Array.all_eq_true']
  intro c hc
  simpa using h c (by simpa using hc)
/-! lists -/
theorem atI_ok {α : Type} {xs : List α} {i : Int} (h0 : 0 ≤ i) (h1 : i < xs.length) : ∃ y, atI xs i = some y ∧ xs[i.toNat]? = some y := by
  have h : i.toNat < xs.length := by omega
  refine ⟨xs[i.toNat], ?_, List.getElem?_eq_getElem h⟩
  unfold atI ixN
  rw [if_pos h0, if_pos h1]
  simp only [Option.bind_some]
  exact List.getElem?_eq_getElem h
theorem atI_nat' {α : Type} {xs : List α} {i : Nat} {y : α} (h : xs[i]? = some y) : atI xs (i : Int) = some y := L2.atI_nat h
end Law
end PB
end
section
set_option Elab.async false
set_option linter.all false
set_option maxRecDepth 100000
/-! M3: loops and comprehensions. -/
namespace PB
namespace Law
open PySem L2
theorem wipeT_len : ∀ (own : List Nat) (s : List (Option R)), (wipeT s own).length = s.length
  | [], s => rfl
  | v :: vs, s => by simp only [wipeT, List.length_set, wipeT_len vs]
theorem wipeT_at : ∀ (own : List Nat) (s : List (Option R)) (i : Nat), (wipeT s own)[i]? = if i ∈ own ∧ i < s.length then some none else s[i]?
  | [], s, i => by simp [wipeT]
  | v :: vs, s, i => by
    simp only [wipeT, List.getElem?_set, wipeT_len, wipeT_at vs, List.mem_cons]
    by_cases h : v = i
    · subst h
      by_cases h2 : v < s.length <;> simp [h2]
    · have : ¬ i = v := fun z => h z.symm
      simp [h, this]
theorem back_len : ∀ (own : List Nat) (s s2 : List (Option R)), (back s s2 own).length = s2.length
  | [], s, s2 => rfl
  | v :: vs, s, s2 => by simp only [back, List.length_set, back_len vs]
theorem back_at : ∀ (own : List Nat) (s s2 : List (Option R)) (i : Nat), (back s s2 own)[i]? = if i ∈ own ∧ i < s2.length then some (s[i]?.join) else s2[i]?
  | [], s, s2, i => by simp [back]
  | v :: vs, s, s2, i => by
    simp only [back, List.getElem?_set, back_len, back_at vs, List.mem_cons]
    by_cases h : v = i
    · subst h
      by_cases h2 : v < s2.length <;> simp [h2]
    · have : ¬ i = v := fun z => h z.symm
      simp [h, this]
theorem back_of {own : List Nat} {s s2 : List (Option R)} (h : wipeT s2 own = wipeT s own) : back s s2 own = s := by
  have hl : s2.length = s.length := by rw [← wipeT_len own s2, h, wipeT_len]
  apply List.ext_getElem?
  intro i
  rw [back_at]
  by_cases c : i ∈ own ∧ i < s2.length
  · rw [if_pos c]
    have : i < s.length := by omega
    rw [List.getElem?_eq_getElem this]
    rfl
  · rw [if_neg c]
    have z := congrArg (fun l => l[i]?) h
    simp only [wipeT_at] at z
    rw [if_neg c, if_neg (by rw [← hl]; exact c)] at z
    exact z
theorem wipe_idem (own : List Nat) (s : List (Option R)) : wipeT (wipeT s own) own = wipeT s own := by
  apply List.ext_getElem?
  intro i
  simp only [wipeT_at, wipeT_len]
  split <;> simp_all
mutual
theorem bindT_same {own : List Nat} : ∀ {g : Tg} {t : T} {s s' : List (Option R)}, (∀ j ∈ g.slots, j ∈ own) → bindT g t s = some s' → wipeT s' own = wipeT s own
  | .nm i, t, s, s', hg, h => by
    simp only [bindT] at h
    split at h
    · cases h
      apply List.ext_getElem?
      intro k
      simp only [wipeT_at, List.length_set, List.getElem?_set]
      by_cases c : k ∈ own ∧ k < s.length
      · rw [if_pos c, if_pos c]
      · rw [if_neg c, if_neg c]
        have : i ≠ k := fun z => by
          subst z
          exact c ⟨hg _ (by simp [Tg.slots]), by omega⟩
        rw [if_neg this]
    · cases h
  | .tp l, .tup ts, s, s', hg, h => by
    simp only [bindT] at h
    split at h
    · exact bindTs_same (fun j z => hg j (by simpa [Tg.slots] using z)) h
    · cases h
  | .tp l, .lst ts, s, s', hg, h => by
    simp only [bindT] at h
    split at h
    · exact bindTs_same (fun j z => hg j (by simpa [Tg.slots] using z)) h
    · cases h
  | .tp _, .non, _, _, _, h => by simp [bindT] at h
  | .tp _, .bl _, _, _, _, h => by simp [bindT] at h
  | .tp _, .int _, _, _, _, h => by simp [bindT] at h
  | .tp _, .str _, _, _, _, h => by simp [bindT] at h
  | .tp _, .dK _, _, _, _, h => by simp [bindT] at h
  | .tp _, .dT _, _, _, _, h => by simp [bindT] at h
  | .tp _, .ins _ _, _, _, _, h => by simp [bindT] at h
  | .tp _, .tok, _, _, _, h => by simp [bindT] at h
  | .tp _, .scr _, _, _, _, h => by simp [bindT] at h
theorem bindTs_same {own : List Nat} : ∀ {g : List Tg} {t : List T} {s s' : List (Option R)}, (∀ j ∈ Tg.slotss g, j ∈ own) → bindTs g t s = some s' → wipeT s' own = wipeT s own
  | [], [], s, s', _, h => by simp only [bindTs, Option.some.injEq] at h; rw [h]
  | g :: gs, t :: ts, s, s', hg, h => by
    simp only [bindTs] at h
    split at h
    · rename_i s1 h1
      rw [bindTs_same (fun j z => hg j (by simp [Tg.slotss, z])) h, bindT_same (fun j z => hg j (by simp [Tg.slotss, z])) h1]
    · cases h
  | [], _ :: _, _, _, _, h => by simp [bindTs] at h
  | _ :: _, [], _, _, _, h => by simp [bindTs] at h
end
section
variable {C : Orc}
theorem walkL_nil {α : Type} (k : T → α → M α) (a : α) (e : Ev) : walkL k [] a e = some (.ok a, e) := rfl
theorem walkL_cons {α : Type} (k : T → α → M α) (t : T) (ts : List T) (a : α) (e : Ev) : walkL k (t :: ts) a e = bnd (k t a) (fun a' => walkL k ts a') e := rfl
/-- a list's comprehension, turn by turn -/
theorem comp_inv {elt : Ex} {own : List Nat} {g : Tg} {it : It} {ifs : List Ex} {e e1 : Ev} {xs : List T} (P : Nat → List T → Option Draw → Prop) (hd : dictAt it e.s = none) (hi : itL C it e = some (.ok xs, e1)) (hg : ∀ j ∈ g.slots, j ∈ own) (h0 : P 0 [] e1.d)
    (hk : ∀ i t acc d, xs[i]? = some t → P i acc d → ∃ s', bindT g t (wipeT e1.s own) = some s' ∧ ∃ b d1, tsts C ifs ⟨s', d⟩ = some (.ok b, ⟨s', d1⟩) ∧ if b = true then ∃ o y d2, ev C elt ⟨s', d1⟩ = some (.ok (o, y), ⟨s', d2⟩) ∧ P (i + 1) (acc ++ [y]) d2 else P (i + 1) acc d1)
    (hl : xs.length ≤ sizeLine) : ∃ acc d', ev C (.comp elt own g it ifs) e = some (.ok (true, .lst acc), ⟨e1.s, d'⟩) ∧ P xs.length acc d' := by
  have walk : ∀ (n i : Nat) (acc : List T) (v : Ev), n + i = xs.length → acc.length ≤ i → wipeT v.s own = wipeT e1.s own → P i acc v.d →
      ∃ acc' v', walkL (fun t acc => bnd (wiped own) fun _ => bnd (bindM g t) fun _ => bnd (tsts C ifs) fun k => if k then bnd (ev C elt) fun r => bnd (chk (decide (acc.length < sizeLine))) fun _ => ret (acc ++ [r.2]) else ret acc) (xs.drop i) acc v = some (.ok acc', v') ∧ wipeT v'.s own = wipeT e1.s own ∧ P xs.length acc' v'.d := by
    intro n
    induction n with
    | zero =>
      intro i acc v hn _ hw hp
      rw [List.drop_eq_nil_of_le (by omega)]
      exact ⟨acc, v, rfl, hw, by rw [show xs.length = i by omega]; exact hp⟩
    | succ n ih =>
      intro i acc v hn ha hw hp
      have hlt : i < xs.length := by omega
      rw [List.drop_eq_getElem_cons hlt, walkL_cons]
      obtain ⟨s', h1, b, d1, h2, h3⟩ := hk i xs[i] acc v.d (List.getElem?_eq_getElem hlt) hp
      have hs' : wipeT s' own = wipeT e1.s own := by rw [bindT_same hg h1, wipe_idem]
      have hb : bindM g xs[i] { v with s := wipeT v.s own } = some (.ok (), ⟨s', v.d⟩) := by
        unfold bindM
        simp only [hw, h1, Option.map_some]
      cases b with
      | false =>
        simp only [Bool.false_eq_true, if_false] at h3
        obtain ⟨acc', v', z1, z2, z3⟩ := ih (i + 1) acc ⟨s', d1⟩ (by omega) (by omega) hs' h3
        refine ⟨acc', v', ?_, z2, z3⟩
        simp only [bnd_def, wiped, hb, h2, Bool.false_eq_true, if_false, ret_def]
        exact z1
      | true =>
        simp only [if_true] at h3
        obtain ⟨o, y, d2, h4, h5⟩ := h3
        obtain ⟨acc', v', z1, z2, z3⟩ := ih (i + 1) (acc ++ [y]) ⟨s', d2⟩ (by omega) (by simp; omega) hs' h5
        refine ⟨acc', v', ?_, z2, z3⟩
        have hc : decide (acc.length < sizeLine) = true := by simp; omega
        simp only [bnd_def, wiped, hb, h2, if_true, h4, hc, chk_t, ret_def]
        exact z1
  obtain ⟨acc, v, h1, h2, h3⟩ := walk xs.length 0 [] e1 (by omega) (by simp) rfl h0
  refine ⟨acc, v.d, ?_, h3⟩
  simp only [ev, itD, hd, bnd_def, hi, noExc, saved]
  rw [List.drop_zero] at h1
  rw [h1]
  simp only [backM, back_of h2, ret_def]
/-- .. by a function, no draws -/
theorem comp_pure {elt : Ex} {own : List Nat} {g : Tg} {it : It} {ifs : List Ex} {e e1 : Ev} {xs : List T} (p : T → Bool) (r : T → T) (hd : dictAt it e.s = none) (hi : itL C it e = some (.ok xs, e1)) (hg : ∀ j ∈ g.slots, j ∈ own)
    (hk : ∀ t ∈ xs, ∃ s', bindT g t (wipeT e1.s own) = some s' ∧ tsts C ifs ⟨s', e1.d⟩ = some (.ok (p t), ⟨s', e1.d⟩) ∧ (p t = true → ∃ o, ev C elt ⟨s', e1.d⟩ = some (.ok (o, r t), ⟨s', e1.d⟩)))
    (hl : xs.length ≤ sizeLine) : ev C (.comp elt own g it ifs) e = some (.ok (true, .lst ((xs.filter p).map r)), e1) := by
  obtain ⟨acc, d', h1, h2⟩ := comp_inv (C := C) (elt := elt) (ifs := ifs) (P := fun i acc d => d = e1.d ∧ acc = ((xs.take i).filter p).map r) hd hi hg (by simp) (fun i t acc d ht ⟨hd1, ha⟩ => by
    subst hd1
    obtain ⟨s', k1, k2, k3⟩ := hk t (List.mem_of_getElem? ht)
    have tk : xs.take (i + 1) = xs.take i ++ [t] := by
      rw [List.take_add_one, ht]; rfl
    refine ⟨s', k1, p t, e1.d, k2, ?_⟩
    cases hp : p t with
    | true =>
      obtain ⟨o, k4⟩ := k3 hp
      simp only [if_true]
      exact ⟨o, r t, e1.d, k4, by trivial, by rw [ha, tk]; simp [hp]⟩
    | false =>
      simp only [Bool.false_eq_true, if_false]
      exact ⟨by trivial, by rw [ha, tk]; simp [hp]⟩) hl
  rw [h1, h2.2, h2.1]
  simp
/-- a loop whose turns go on, or return -/
theorem for_inv {g : Tg} {b : SM} {xs : List T} (P : Nat → Ev → Prop) (Q : R → Ev → Prop) {e : Ev} (h0 : P 0 e)
    (hk : ∀ i t e, xs[i]? = some t → P i e → ∃ s', bindT g t e.s = some s' ∧ ((∃ e', b ⟨s', e.d⟩ = some (.next, e') ∧ P (i + 1) e') ∨ ∃ r e', b ⟨s', e.d⟩ = some (.ret r, e') ∧ Q r e')) :
    (∃ e', forL g b xs e = some (.next, e') ∧ P xs.length e') ∨ ∃ r e', forL g b xs e = some (.ret r, e') ∧ Q r e' := by
  have walk : ∀ (n i : Nat) (v : Ev), n + i = xs.length → P i v → (∃ e', forL g b (xs.drop i) v = some (.next, e') ∧ P xs.length e') ∨ ∃ r e', forL g b (xs.drop i) v = some (.ret r, e') ∧ Q r e' := by
    intro n
    induction n with
    | zero =>
      intro i v hn hp
      rw [List.drop_eq_nil_of_le (by omega)]
      exact .inl ⟨v, rfl, by rw [show xs.length = i by omega]; exact hp⟩
    | succ n ih =>
      intro i v hn hp
      have hlt : i < xs.length := by omega
      rw [List.drop_eq_getElem_cons hlt]
      obtain ⟨s', h1, h2⟩ := hk i xs[i] v (List.getElem?_eq_getElem hlt) hp
      rcases h2 with ⟨e', h2, h3⟩ | ⟨r, e', h2, h3⟩
      · simp only [forL, h1, h2]
        exact ih (i + 1) e' (by omega) h3
      · simp only [forL, h1, h2]
        exact .inr ⟨r, e', rfl, h3⟩
  have z := walk xs.length 0 e (by omega) h0
  rwa [List.drop_zero] at z
/-- a loop whose turns all go on -/
theorem for_all {g : Tg} {b : SM} {xs : List T} (P : Nat → Ev → Prop) {e : Ev} (h0 : P 0 e) (hk : ∀ i t e, xs[i]? = some t → P i e → ∃ s' e', bindT g t e.s = some s' ∧ b ⟨s', e.d⟩ = some (.next, e') ∧ P (i + 1) e') :
    ∃ e', forL g b xs e = some (.next, e') ∧ P xs.length e' := by
  rcases for_inv (Q := fun _ _ => False) P h0 (fun i t e h1 h2 => let ⟨s', e', a, b, c⟩ := hk i t e h1 h2; ⟨s', a, .inl ⟨e', b, c⟩⟩) with z | ⟨_, _, _, z⟩
  · exact z
  · exact z.elim
/-- a for over what is no named dict -/
theorem st_for {g : Tg} {it : It} {b : List St} {e e1 : Ev} {xs : List T} (hd : dictAt it e.s = none) (hi : itL C it e = some (.ok xs, e1)) : st C (.for g it b) e = forL g (sts C b) xs e1 := by
  rw [s_for]
  simp only [hd, tob_def, hi]
end
end Law
end PB
end
section
set_option Elab.async false
set_option linter.all false
set_option maxRecDepth 100000
/-! M4: cuts, enumerations. -/
namespace PB
namespace Law
open PySem L2
theorem cut_to {α : Type} (xs : List α) (i : Nat) : cutL xs none (some (i : Int)) = xs.take i := by
  unfold cutL
  rw [HT.sIx_nat]
  simp only [HT.sIx_none, List.drop_zero, Nat.sub_zero]
  rw [List.take_eq_take_iff]
  omega
theorem cut_from {α : Type} (xs : List α) (i : Nat) : cutL xs (some (i : Int)) none = xs.drop i := by
  unfold cutL
  rw [HT.sIx_nat, HT.sIx_none]
  by_cases h : i ≤ xs.length
  · rw [Nat.min_eq_left h, List.take_of_length_le (by simp)]
  · rw [List.drop_eq_nil_of_le (by omega), List.drop_eq_nil_of_le (by omega), List.take_nil]
theorem enumL_get {xs : List T} {i : Nat} {t : T} (h : (enumL xs)[i]? = some t) : ∃ x, xs[i]? = some x ∧ t = .tup [.int i, x] := by
  unfold enumL at h
  simp only [List.getElem?_map, List.getElem?_zipIdx, Option.map_map, Option.map_eq_some_iff] at h
  obtain ⟨x, h1, h2⟩ := h
  refine ⟨x, h1, ?_⟩
  rw [← h2]
  simp
theorem enumL_len (xs : List T) : (enumL xs).length = xs.length := by simp [enumL]
theorem rng_get {n : Int} {i : Nat} {t : T} (h : (rngL 0 n)[i]? = some t) : t = .int i ∧ (i : Int) < n := by
  unfold rngL at h
  simp only [Int.sub_zero, List.getElem?_map, Option.map_eq_some_iff, List.getElem?_range] at h
  obtain ⟨k, h1, h2⟩ := h
  have hk : i < n.toNat ∧ k = i := by
    rw [List.getElem?_eq_some_iff] at h1
    obtain ⟨h3, h4⟩ := h1
    simp only [List.length_range] at h3
    simp only [List.getElem_range] at h4
    exact ⟨h3, h4.symm⟩
  obtain ⟨h3, h4⟩ := hk
  subst h4
  exact ⟨by rw [← h2]; simp, by omega⟩
theorem rng_len (n : Int) : (rngL 0 n).length = n.toNat := by simp [rngL]
theorem map_get {α β : Type} {f : α → β} {xs : List α} {i : Nat} {y : β} (h : (xs.map f)[i]? = some y) : ∃ x, xs[i]? = some x ∧ y = f x := by
  simp only [List.getElem?_map, Option.map_eq_some_iff] at h
  obtain ⟨x, h1, h2⟩ := h
  exact ⟨x, h1, h2.symm⟩
section
variable {C : Orc}
theorem st_for_all {g : Tg} {it : It} {b : List St} {e e1 : Ev} {xs : List T} (P : Nat → Ev → Prop) (hd : dictAt it e.s = none) (hi : itL C it e = some (.ok xs, e1)) (h0 : P 0 e1)
    (hk : ∀ i t e, xs[i]? = some t → P i e → ∃ s' e', bindT g t e.s = some s' ∧ sts C b ⟨s', e.d⟩ = some (.next, e') ∧ P (i + 1) e') : ∃ e', st C (.for g it b) e = some (.next, e') ∧ P xs.length e' := by
  rw [st_for hd hi]
  exact for_all P h0 hk
theorem st_for_inv {g : Tg} {it : It} {b : List St} {e e1 : Ev} {xs : List T} (P : Nat → Ev → Prop) (Q : R → Ev → Prop) (hd : dictAt it e.s = none) (hi : itL C it e = some (.ok xs, e1)) (h0 : P 0 e1)
    (hk : ∀ i t e, xs[i]? = some t → P i e → ∃ s', bindT g t e.s = some s' ∧ ((∃ e', sts C b ⟨s', e.d⟩ = some (.next, e') ∧ P (i + 1) e') ∨ ∃ r e', sts C b ⟨s', e.d⟩ = some (.ret r, e') ∧ Q r e')) :
    (∃ e', st C (.for g it b) e = some (.next, e') ∧ P xs.length e') ∨ ∃ r e', st C (.for g it b) e = some (.ret r, e') ∧ Q r e' := by
  rw [st_for hd hi]
  exact for_inv P Q h0 hk
end
section
variable {C : Orc}
theorem getK_none' {κ : Type} [DecidableEq κ] {kvs : List (κ × T)} {q : κ} (h : ∀ p ∈ kvs, p.1 ≠ q) : getK kvs q = none := by
  unfold getK
  rw [List.find?_eq_none.mpr (fun p hp => by simpa using h p hp)]
  rfl
theorem putT_new' {κ : Type} [DecidableEq κ] {kvs : List (κ × T)} {q : κ} {t : T} (h : ∀ p ∈ kvs, p.1 ≠ q) : putT kvs q t = kvs ++ [(q, t)] := by
  unfold putT
  rw [if_neg]
  simp only [List.any_eq_true, decide_eq_true_eq, not_exists, not_and]
  exact h
/-- a dict's comprehension with new tuple keys -/
theorem dcomp_pure {k v : Ex} {own : List Nat} {g : Tg} {it : It} {e e1 : Ev} {xs : List T} (qk : T → T) (qq : T → List Key) (vv : T → T) (hd : dictAt it e.s = none) (hi : itL C it e = some (.ok xs, e1)) (hg : ∀ j ∈ g.slots, j ∈ own)
    (hk : ∀ t ∈ xs, ∃ s', bindT g t (wipeT e1.s own) = some s' ∧ (∃ o, ev C k ⟨s', e1.d⟩ = some (.ok (o, qk t), ⟨s', e1.d⟩)) ∧ (∃ o, ev C v ⟨s', e1.d⟩ = some (.ok (o, vv t), ⟨s', e1.d⟩)) ∧ (qk t).tkey = some (qq t))
    (hn : (xs.map qq).Nodup) (hl : xs.length ≤ sizeLine) : ev C (.dcomp true k v own g it []) e = some (.ok (true, .dT (xs.map fun t => (qq t, vv t))), e1) := by
  have walk : ∀ (n i : Nat) (w : Ev), n + i = xs.length → wipeT w.s own = wipeT e1.s own → w.d = e1.d →
      ∃ w', walkL (fun t acc => bnd (wiped own) fun _ => bnd (bindM g t) fun _ => bnd (tsts C []) fun b => if b then bnd (ev C k) fun x => bnd (ev C v) fun y => opt (dputT acc x.2 y.2) else ret acc) (xs.drop i) (.dT ((xs.take i).map fun t => (qq t, vv t))) w = some (.ok (.dT (xs.map fun t => (qq t, vv t))), w') ∧ wipeT w'.s own = wipeT e1.s own ∧ w'.d = e1.d := by
    intro n
    induction n with
    | zero =>
      intro i w hn hw hp
      rw [List.drop_eq_nil_of_le (by omega), List.take_of_length_le (by omega)]
      exact ⟨w, rfl, hw, hp⟩
    | succ n ih =>
      intro i w hn' hw hp
      have hlt : i < xs.length := by omega
      rw [List.drop_eq_getElem_cons hlt, walkL_cons]
      obtain ⟨s', h1, ⟨o, h2⟩, ⟨o', h3⟩, h4⟩ := hk xs[i] (List.getElem_mem hlt)
      have hs' : wipeT s' own = wipeT e1.s own := by rw [bindT_same hg h1, wipe_idem]
      have hb : bindM g xs[i] { w with s := wipeT w.s own } = some (.ok (), ⟨s', e1.d⟩) := by
        unfold bindM
        simp only [hw, h1, Option.map_some, hp]
      obtain ⟨w', z1, z2, z3⟩ := ih (i + 1) ⟨s', e1.d⟩ (by omega) hs' rfl
      refine ⟨w', ?_, z2, z3⟩
      have new : ∀ p ∈ (xs.take i).map (fun t => (qq t, vv t)), p.1 ≠ qq xs[i] := fun p hp e => by
        obtain ⟨u, hu, rfl⟩ := List.mem_map.mp hp
        rw [List.mem_take_iff_getElem] at hu
        obtain ⟨j, hj, e2⟩ := hu
        refine List.pairwise_iff_getElem.mp hn j i (by simp; omega) (by simpa using hlt) (by omega) ?_
        simp only [List.getElem_map, e2]
        exact e
      have hput : dputT (.dT ((xs.take i).map fun t => (qq t, vv t))) (qk xs[i]) (vv xs[i]) = some (.dT ((xs.take (i + 1)).map fun t => (qq t, vv t))) := by
        simp only [dputT, h4, Option.bind_some]
        rw [if_pos (by simp; omega), putT_new' new, List.take_add_one, List.getElem?_eq_getElem hlt]
        simp only [Option.toList_some, List.map_append, List.map_cons, List.map_nil]
      simp only [bnd_def, wiped, hb, tsts_nil, ret_def, if_true, h2, h3, hput, opt_some']
      exact z1
  obtain ⟨w, h1, h2, h3⟩ := walk xs.length 0 e1 (by omega) rfl rfl
  simp only [ev, itD, hd, bnd_def, hi, noExc, saved]
  rw [List.drop_zero, List.take_zero, List.map_nil] at h1
  simp only [if_true]
  rw [h1]
  simp only [backM, back_of h2, ret_def]
  obtain ⟨ws, wd⟩ := w
  obtain ⟨es, ed⟩ := e1
  simp only at h3
  rw [h3]
end
theorem filter_tt {α : Type} (xs : List α) : xs.filter (fun _ => true) = xs := by
  induction xs with
  | nil => rfl
  | cons a l ih => simp [ih]
/-- a comprehension without a test -/
theorem comp_map {C : Orc} {elt : Ex} {own : List Nat} {g : Tg} {it : It} {e e1 : Ev} {xs : List T} (r : T → T) (hd : dictAt it e.s = none) (hi : itL C it e = some (.ok xs, e1)) (hg : ∀ j ∈ g.slots, j ∈ own)
    (hk : ∀ t ∈ xs, ∃ s', bindT g t (wipeT e1.s own) = some s' ∧ ∃ o, ev C elt ⟨s', e1.d⟩ = some (.ok (o, r t), ⟨s', e1.d⟩)) (hl : xs.length ≤ sizeLine) : ev C (.comp elt own g it []) e = some (.ok (true, .lst (xs.map r)), e1) := by
  have z := comp_pure (C := C) (elt := elt) (ifs := []) (fun _ => true) r hd hi hg (fun t ht => by
    obtain ⟨s', h1, h2⟩ := hk t ht
    exact ⟨s', h1, by simp, fun _ => h2⟩) hl
  rwa [filter_tt] at z
theorem okR_nat {n : Nat} (h : n ≤ 1000) : okR (n : Int) = true := by
  rw [okR_iff]
  omega
theorem rng_opt {C : Orc} {n : Nat} (h : n ≤ 1000) (e : Ev) : opt ((toInt (.int (n : Int))).bind fun m => if okR m then some (rngL 0 m) else none) e = some (.ok (rngL 0 n), e) := by
  simp only [toInt, Option.bind_some, okR_nat h, if_true]
  rfl
/-- range(len(x)) -/
theorem itL_len {C : Orc} {i : Nat} {b : Bool} {s : List (Option R)} {d : Option Draw} {l : List T} (h : s[i]? = some (some (b, .lst l))) (hz : l.length ≤ 1000) : itL C (.rng (.p1 .len (.var i))) ⟨s, d⟩ = some (.ok (rngL 0 l.length), ⟨s, d⟩) := by
  have e : rdm (.p1 .len (.var i)) (ev C (.p1 .len (.var i))) ⟨s, d⟩ = some (.ok (.int (l.length : Int)), ⟨s, d⟩) := by
    rw [rdm_p1]
    simp only [e_p1, rdm_var, bnd_def, rd_def, h, ret_def, prim1, lenT, Option.map_some, opt_some']
  rw [itL_rng, bnd_def, e]
  exact rng_opt (C := C) hz _
/-- range of a number -/
theorem itL_num {C : Orc} {i : Nat} {b : Bool} {s : List (Option R)} {d : Option Draw} {n : Nat} (h : s[i]? = some (some (b, .int n))) (hz : n ≤ 1000) : itL C (.rng (.var i)) ⟨s, d⟩ = some (.ok (rngL 0 n), ⟨s, d⟩) := by
  have e : rdm (.var i) (ev C (.var i)) ⟨s, d⟩ = some (.ok (.int (n : Int)), ⟨s, d⟩) := by
    rw [rdm_var]
    simp only [bnd_def, rd_def, h, ret_def]
  rw [itL_rng, bnd_def, e]
  exact rng_opt (C := C) hz _
theorem itL_con {C : Orc} {e : Ev} {n : Nat} (hz : n ≤ 1000) : itL C (.rng (.con (.int n))) e = some (.ok (rngL 0 n), e) := by
  have e1 : rdm (.con (.int n)) (ev C (.con (.int n))) e = some (.ok (.int (n : Int)), e) := by
    rw [rdm_con]
    simp only [e_con, bnd_def, ret_def]
  rw [itL_rng, bnd_def, e1]
  exact rng_opt (C := C) hz _
def finI : Option (Fl × Ev) → Option (Out R × Option Draw)
  | some (.next, e) => (match e.s[0]? with
    | some (some (true, t)) => some (.ok (true, t), e.d)
    | _ => none)
  | some (.exc c fs, e) => some (.exc c fs, e.d)
  | _ => none
theorem call_init {Γ : List (Fd × Bool)} {n f ps m : Nat} {X : Str} {body : List St} {ts : List T} {d : Option Draw} (h : Γ[f]? = some (.init X ps m body, false)) (hl : ts.length + 1 = ps) : callN Γ (n + 2) f ts d = finI (sts (callN Γ n) body ⟨some (true, .ins X []) :: args ts (m - 1), d⟩) := by
  rw [show n + 2 = n + costF (Fd.init X ps m body, false) + 1 from rfl, callN_at h]
  simp only [runF, hl, if_true]
  cases sts (callN Γ n) body ⟨some (true, .ins X []) :: args ts (m - 1), d⟩ with
  | none => rfl
  | some z =>
    obtain ⟨fl, e⟩ := z
    cases fl <;> rfl
end Law
end PB
end
section
set_option Elab.async false
set_option linter.all false
set_option maxRecDepth 100000
/-! K1: words, names, rows. -/
namespace PB
namespace Law
open PySem L2
local macro_rules | `(tactic| ac_rfl) => `(tactic| simp [args, retV, callO, hvR, T.hv, T.hvIn, Ex.quiet, Ex.quiets, cmpT, isT, T.isis, T.isi, T.ty, subTy, prim1, lenT, prim2])
/-- one to eight letters -/
structure Wrd (x : Str) : Prop where
  lo : 1 ≤ x.length
  hi : x.length ≤ 8
  al : ∀ c ∈ x.cps.toList, 97 ≤ c ∧ c ≤ 122
theorem line_big : 1000000 ≤ sizeLine := by decide
theorem Wrd.line {x : Str} (h : Wrd x) : x.length ≤ sizeLine := by have := h.hi; have := line_big; omega
theorem Wrd.ok {x : Str} (h : Wrd x) : PyData.strOk x = true := strOk_of fun c hc => by have := h.al c hc; omega
@[simp] theorem boolsOf_map {α : Type} (p : α → Bool) (l : List α) : boolsOf (l.map fun a => .bl (p a)) = some (l.map p) := by
  induction l with
  | nil => rfl
  | cons a l ih => simp [boolsOf, ih]
theorem abc_mem (c : Nat) (h : 97 ≤ c ∧ c ≤ 122) : c ∈ (S "abcdefghijklmnopqrstuvwxyz").cps.toList := by
  have e : (S "abcdefghijklmnopqrstuvwxyz").cps.toList = [97, 98, 99, 100, 101, 102, 103, 104, 105, 106, 107, 108, 109, 110, 111, 112, 113, 114, 115, 116, 117, 118, 119, 120, 121, 122] := by decide +kernel
  rw [e]
  simp only [List.mem_cons, List.not_mem_nil, or_false]
  omega
theorem g0 : Γ[0]? = some (.fn 1 1 b0, false) := rfl
theorem g1 : Γ[1]? = some (.fn 2 2 b1, false) := rfl
theorem g2 : Γ[2]? = some (.fn 1 1 b2, false) := rfl
theorem g3 : Γ[3]? = some (.fn 1 3 b3, false) := rfl
theorem g4 : Γ[4]? = some (.fn 1 1 b4, false) := rfl
theorem g5 : Γ[5]? = some (.fn 1 3 b5, false) := rfl
theorem g6 : Γ[6]? = some (.fn 2 2 b6, false) := rfl
theorem g7 : Γ[7]? = some (.fn 3 3 b7, false) := rfl
theorem g8 : Γ[8]? = some (.fn 3 6 b8, false) := rfl
@[simp] theorem f2 (n : Nat) (x : Str) (d : Option Draw) : callN Γ (n + 1) 2 [.str x] d = some (.ok (false, .bl true), d) := by
  rw [call_fn g2 rfl]
  ac_rfl
@[simp] theorem f6 (n : Nat) (l : List Str) (x : Str) (d : Option Draw) : callN Γ (n + 2) 6 [.lst (l.map .str), .str x] d = some (.ok (false, .bl (decide (x ∈ l))), d) := by
  rw [call_fn g6 rfl]
  ac_rfl
@[simp] theorem f0l (n : Nat) (l : List T) (d : Option Draw) : callN Γ (n + 1) 0 [.lst l] d = some (.ok (false, .bl true), d) := by
  rw [call_fn g0 rfl]
  ac_rfl
@[simp] theorem f0t (n : Nat) (l : List T) (d : Option Draw) : callN Γ (n + 1) 0 [.tup l] d = some (.ok (false, .bl true), d) := by
  rw [call_fn g0 rfl]
  ac_rfl
@[simp] theorem f1l (n : Nat) (l : List T) (k : Int) (d : Option Draw) : callN Γ (n + 2) 1 [.lst l, .int k] d = some (.ok (false, .bl (decide ((l.length : Int) = k))), d) := by
  rw [call_fn g1 rfl]
  ac_rfl
@[simp] theorem f1t (n : Nat) (l : List T) (k : Int) (d : Option Draw) : callN Γ (n + 2) 1 [.tup l, .int k] d = some (.ok (false, .bl (decide ((l.length : Int) = k))), d) := by
  rw [call_fn g1 rfl]
  ac_rfl
theorem f3 (n : Nat) (x : Str) (h : Wrd x) (d : Option Draw) : callN Γ (n + 2) 3 [.str x] d = some (.ok (false, .bl true), d) := by
  rw [call_fn g3 rfl]
  have hc : ev (callN Γ (n + 1)) b3c1 ⟨[some (false, .str x), none, none], d⟩ = _ := comp_pure (e1 := ⟨[some (false, .str x), none, none], d⟩) (xs := x.cps.toList.map fun c => .str ⟨#[c]⟩) (fun _ => true) (fun _ => .bl true)
      (by simp [dictAt, T.isD]) (by simp [seqS, frz1]) (by simp [Tg.slots]) (fun t ht => by
        obtain ⟨c, hc, rfl⟩ := List.mem_map.mp ht
        refine ⟨[some (false, .str x), none, some (false, .str ⟨#[c]⟩)], by simp [bindT, wipeT], by simp, fun _ => ⟨false, ?_⟩⟩
        have := abc_mem c (h.al c hc)
        simp [cmpT, inT, Ex.quiet, Str.length] at this ⊢
        exact this) (by have := h.hi; have := line_big; simp [Str.length] at *; omega)
  have hl := h.line
  have hp : 0 < x.length := h.lo
  simp [args, retV, callO, hvR, T.hv, Ex.quiet, Ex.quiets, cmpT, prim1, lenT, hc, hl, hp]
theorem f4 (n : Nat) (x : Str) (h : Wrd x) (d : Option Draw) : callN Γ (n + 3) 4 [.str x] d = some (.ok (false, .bl true), d) := by
  rw [call_fn g4 rfl]
  have hl := h.line
  have h8 : (x.length : Int) ≤ 8 := by have := h.hi; omega
  simp [args, retV, callO, hvR, T.hv, Ex.quiet, Ex.quiets, cmpT, prim1, lenT, hl, f3 n x h, h8]
theorem f5 (n : Nat) (l : List Str) (h : ∀ x ∈ l, Wrd x) (hn : l.Nodup) (h0 : l ≠ []) (hz : l.length ≤ 100) (d : Option Draw) : callN Γ (n + 4) 5 [tS l] d = some (.ok (false, .non), d) := by
  rw [call_fn g5 rfl]
  obtain ⟨e', hf, a, b, rfl⟩ : ∃ e', st (callN Γ (n + 3)) b5f1 ⟨[some (false, tS l), none, none], d⟩ = some (.next, e') ∧ ∃ a b, e' = ⟨[some (false, tS l), a, b], d⟩ :=
    st_for_all (e1 := ⟨[some (false, tS l), none, none], d⟩) (xs := enumL (l.map .str)) (fun i e => ∃ a b, e = ⟨[some (false, tS l), a, b], d⟩) (by simp [dictAt]) (by simp [seqOf, frz1]) ⟨none, none, rfl⟩ (fun i t e ht ⟨a, b, he⟩ => by
      subst he
      obtain ⟨y, hy, rfl⟩ := enumL_get ht
      obtain ⟨x, hx, rfl⟩ := map_get hy
      have hm := List.mem_of_getElem? hx
      refine ⟨[some (false, tS l), some (false, .int i), some (false, .str x)], ⟨[some (false, tS l), some (false, .int i), some (false, .str x)], d⟩, by simp [bindT, bindTs], ?_, _, _, rfl⟩
      have hnot : x ∉ l.take i := fun hin => by
        rw [List.getElem?_eq_some_iff] at hx
        obtain ⟨hi, e⟩ := hx
        rw [List.mem_take_iff_getElem] at hin
        obtain ⟨j, hj, e2⟩ := hin
        exact List.pairwise_iff_getElem.mp hn j i (by omega) hi (by omega) (by rw [e, e2])
      simp [args, retV, callO, hvR, T.hv, Ex.quiet, Ex.quiets, cmpT, prim1, exQ, slT, toInt, itemsT, cut_to, f4 n x (h x hm), ← List.map_take, hnot])
  have hl : l.length ≠ 0 := fun z => h0 (List.length_eq_zero_iff.mp z)
  simp [args, retV, callO, hvR, T.hv, Ex.quiet, Ex.quiets, cmpT, prim1, lenT, hf, hl, h0]
end Law
end PB
end
section
set_option Elab.async false
set_option linter.all false
set_option maxRecDepth 100000
/-! K2: boxes. -/
namespace PB
namespace Law
open PySem L2
local macro_rules | `(tactic| ac_rfl) => `(tactic| simp [args, retV, callO, hvR, T.hv, T.hvIn, Ex.quiet, Ex.quiets, cmpT, isT, T.isis, T.isi, T.ty, subTy, prim1, lenT, prim2])
abbrev Row := Str × Str × Str × Str
abbrev rowT (w : Row) : T := .tup [.str w.1, .str w.2.1, .str w.2.2.1, .str w.2.2.2]
def keyW (w : Row) : List Key := [.inr w.1, .inr w.2.1]
structure Raw where
  st : List Str
  bu : List Str
  ro : List Row
abbrev Raw.T (r : Raw) : T := .lst [tS r.st, tS r.bu, .lst (r.ro.map rowT)]
/-- a row of names -/
structure RowIn (st bu : List Str) (w : Row) : Prop where
  a : w.1 ∈ st
  b : w.2.1 ∈ bu
  c : Wrd w.2.2.1
  d : w.2.2.2 ∈ st
/-- a right raw box -/
structure Raw.Ok (r : Raw) : Prop where
  sw : ∀ x ∈ r.st, Wrd x
  sn : r.st.Nodup
  s0 : r.st ≠ []
  sl : r.st.length ≤ 8
  bw : ∀ x ∈ r.bu, Wrd x
  bn : r.bu.Nodup
  bz : r.bu ≠ []
  bl : r.bu.length ≤ 8
  ri : ∀ w ∈ r.ro, RowIn r.st r.bu w
  rn : (r.ro.map keyW).Nodup
  rl : r.ro.length ≤ 1000
theorem f7 (n : Nat) (st bu : List Str) (w : Row) (h : RowIn st bu w) (d : Option Draw) : callN Γ (n + 4) 7 [tS st, tS bu, rowT w] d = some (.ok (false, .bl true), d) := by
  rw [call_fn g7 rfl]
  have ha := h.a
  have hb := h.b
  have hd := h.d
  simp [args, retV, callO, hvR, T.hv, T.hvs, Ex.quiet, Ex.quiets, cmpT, prim1, lenT, ixT, atI, ixN, f4 n w.2.2.1 h.c, ha, hb, hd]
theorem getK_none {κ : Type} [DecidableEq κ] {kvs : List (κ × T)} {q : κ} (h : ∀ p ∈ kvs, p.1 ≠ q) : getK kvs q = none := by
  unfold getK
  rw [List.find?_eq_none.mpr (fun p hp => by simpa using h p hp)]
  rfl
theorem putT_new {κ : Type} [DecidableEq κ] {kvs : List (κ × T)} {q : κ} {t : T} (h : ∀ p ∈ kvs, p.1 ≠ q) : putT kvs q t = kvs ++ [(q, t)] := by
  unfold putT
  rw [if_neg]
  simp only [List.any_eq_true, decide_eq_true_eq, not_exists, not_and]
  exact h
/-- the key is new -/
theorem key_new {ro : List Row} (hn : (ro.map keyW).Nodup) {i : Nat} {w : Row} (hi : ro[i]? = some w) {t : Row → T} : ∀ p ∈ (ro.take i).map (fun w => (keyW w, t w)), p.1 ≠ keyW w := fun p hp e => by
  obtain ⟨v, hv, rfl⟩ := List.mem_map.mp hp
  rw [List.getElem?_eq_some_iff] at hi
  obtain ⟨h1, h2⟩ := hi
  rw [List.mem_take_iff_getElem] at hv
  obtain ⟨j, hj, e2⟩ := hv
  refine List.pairwise_iff_getElem.mp hn j i (by simp; omega) (by simpa using h1) (by omega) ?_
  simp only [List.getElem_map, e2, h2]
  exact e
theorem take_succ' {α : Type} {xs : List α} {i : Nat} {x : α} (h : xs[i]? = some x) : xs.take (i + 1) = xs.take i ++ [x] := by
  rw [List.take_add_one, h]; rfl
theorem f8 (n : Nat) (r : Raw) (h : r.Ok) (d : Option Draw) : callN Γ (n + 5) 8 [tS r.st, tS r.bu, .lst (r.ro.map rowT)] d = some (.ok (false, .non), d) := by
  rw [call_fn g8 rfl]
  let s8 (k : Nat) (b c : Option R) : Ev := ⟨[some (false, tS r.st), some (false, tS r.bu), some (false, .lst (r.ro.map rowT)), some (true, .dT ((r.ro.take k).map fun w => (keyW w, .bl true))), b, c], d⟩
  obtain ⟨e', hf, b, c, rfl⟩ : ∃ e', st (callN Γ (n + 4)) b8f1 (s8 0 none none) = some (.next, e') ∧ ∃ b c, e' = s8 (enumL (r.ro.map rowT)).length b c :=
    st_for_all (e1 := s8 0 none none) (xs := enumL (r.ro.map rowT)) (fun i e => ∃ b c, e = s8 i b c) (by simp [s8, dictAt]) (by simp [s8, seqOf, frz1]) ⟨none, none, rfl⟩ (fun i t e ht ⟨b, c, he⟩ => by
      subst he
      obtain ⟨y, hy, rfl⟩ := enumL_get ht
      obtain ⟨w, hw, rfl⟩ := map_get hy
      have hm := h.ri w (List.mem_of_getElem? hw)
      have kn := key_new h.rn hw (t := fun _ => .bl true)
      have hl : (r.ro.take i).length < sizeLine := by have := line_big; have := h.rl; simp; omega
      refine ⟨(s8 i (some (false, .int i)) (some (false, rowT w))).s, s8 (i + 1) (some (false, .int i)) (some (false, rowT w)), by simp [s8, bindT, bindTs], ?_, _, _, rfl⟩
      have k1 : getK (List.map (fun w => (keyW w, T.bl true)) (r.ro.take i)) [Sum.inr w.1, Sum.inr w.2.1] = none := getK_none kn
      have k2 : putT (List.map (fun w => (keyW w, T.bl true)) (r.ro.take i)) [Sum.inr w.1, Sum.inr w.2.1] (T.bl true) = _ := putT_new kn
      have l2 : 2 ≤ sizeLine := by decide
      simp at hl
      simp only [List.map_take] at k1 k2
      simp [s8, args, retV, callO, hvR, T.hv, T.hvs, Ex.quiet, Ex.quiets, cmpT, inT, ixT, atI, ixN, f7 n _ _ w hm, dgetT, dputT, T.tkey, keysOf, T.key, k1, k2, putS, l2, hl]
      rw [← List.map_take, ← List.map_take, take_succ' hw, List.map_append]
      rfl)
  simp [s8] at hf
  simp [args, retV, callO, hvR, T.hv, Ex.quiet, Ex.quiets, asgR, hf]
theorem g27 : Γ[27]? = some (.fn 1 5 b27, false) := rfl
theorem g47 : Γ[47]? = some (.init (S "Box") 4 7 b47, false) := rfl
theorem g31 : Γ[31]? = some (.fn 1 2 b31, false) := rfl
theorem g48 : Γ[48]? = some (.fn 1 1 b48, false) := rfl
theorem g49 : Γ[49]? = some (.fn 1 1 b49, false) := rfl
theorem g50 : Γ[50]? = some (.fn 3 3 b50, false) := rfl
mutual
/-- values that are copied -/
def cp : T → Bool
  | .non => true | .bl _ => true | .int _ => true | .str _ => true
  | .lst xs => cps xs && decide (xs.length ≤ 100000)
  | .tup xs => cps xs && decide (xs.length ≤ 100000)
  | .dK kvs => kvs.isEmpty
  | _ => false
def cps : List T → Bool
  | [] => true
  | t :: ts => cp t && cps ts
end
def cpB : T → Bool
  | .lst _ => true
  | .dK _ => true
  | _ => false
theorem cps_mem : ∀ {ts : List T}, cps ts = true → ∀ t ∈ ts, cp t = true
  | [], _, _, h => nomatch h
  | t :: ts, h, x, hx => by
    simp only [cps, Bool.and_eq_true] at h
    rcases List.mem_cons.mp hx with e | e
    · rw [e]; exact h.1
    · exact cps_mem h.2 x e
theorem deps_mem : ∀ {ts : List T} {t : T}, t ∈ ts → t.dep ≤ T.deps ts
  | [], _, h => nomatch h
  | t :: ts, x, hx => by
    simp only [T.deps]
    rcases List.mem_cons.mp hx with e | e
    · rw [e]; omega
    · have := deps_mem e; omega
theorem f27 : ∀ (n : Nat) (t : T), t.dep ≤ n → cp t = true → ∀ d, callN Γ (n + 1) 27 [t] d = some (.ok (cpB t, t), d)
  | n, .non, _, _, d => by rw [call_fn g27 rfl]; ac_rfl; rfl
  | n, .bl _, _, _, d => by rw [call_fn g27 rfl]; ac_rfl; rfl
  | n, .int _, _, _, d => by rw [call_fn g27 rfl]; ac_rfl; rfl
  | n, .str _, _, _, d => by rw [call_fn g27 rfl]; ac_rfl; rfl
  | n, .dK kvs, _, h, d => by
    have : kvs = [] := by simpa [cp] using h
    subst this
    rw [call_fn g27 rfl]
    simp [args, retV, callO, hvR, T.hv, T.hvIn, Ex.quiet, Ex.quiets, cmpT, isT, T.isis, T.isi, T.ty, subTy, asgR, s_for, dictAt, itemsT, T.isD, forL, noExS, frz1]
    rfl
  | 0, .lst xs, hd, _, d => by simp [T.dep] at hd
  | 0, .tup xs, hd, _, d => by simp [T.dep] at hd
  | n + 1, .lst xs, hd, h, d => by
    rw [call_fn g27 rfl]
    simp only [cp, Bool.and_eq_true, decide_eq_true_eq] at h
    simp only [T.dep] at hd
    have hc : ev (callN Γ (n + 1)) b27c1 ⟨[some (false, .lst xs), none, none, none, none], d⟩ = _ := comp_pure (e1 := ⟨[some (false, .lst xs), none, none, none, none], d⟩) (xs := xs) (fun _ => true) (fun t => t)
      (by simp [dictAt, T.isD]) (by simp [seqS, seqOf, frz1]) (by simp [Tg.slots]) (fun t ht => by
        have hm := deps_mem ht
        refine ⟨[some (false, .lst xs), none, none, none, some (false, t)], by simp [bindT, wipeT], by simp, fun _ => ⟨cpB t, ?_⟩⟩
        simp [callO, Ex.quiet, Ex.quiets, f27 n t (by omega) (cps_mem h.1 t ht), frzV, frz1]) (by have := line_big; omega)
    simp at hc
    simp [args, retV, callO, hvR, T.hv, Ex.quiet, Ex.quiets, T.isis, T.isi, T.ty, subTy, hc]
    rfl
  | n + 1, .tup xs, hd, h, d => by
    rw [call_fn g27 rfl]
    simp only [cp, Bool.and_eq_true, decide_eq_true_eq] at h
    simp only [T.dep] at hd
    have hc : ev (callN Γ (n + 1)) b27c2 ⟨[some (false, .tup xs), none, none, none, none], d⟩ = _ := comp_pure (e1 := ⟨[some (false, .tup xs), none, none, none, none], d⟩) (xs := xs) (fun _ => true) (fun t => t)
      (by simp [dictAt, T.isD]) (by simp [seqS, seqOf, frz1]) (by simp [Tg.slots]) (fun t ht => by
        have hm := deps_mem ht
        refine ⟨[some (false, .tup xs), none, none, none, some (false, t)], by simp [bindT, wipeT], by simp, fun _ => ⟨cpB t, ?_⟩⟩
        simp [callO, Ex.quiet, Ex.quiets, f27 n t (by omega) (cps_mem h.1 t ht), frzV, frz1]) (by have := line_big; omega)
    simp at hc
    simp [args, retV, callO, hvR, T.hv, Ex.quiet, Ex.quiets, T.isis, T.isi, T.ty, subTy, prim1, hc]
    rfl
  | n, .dT _, _, h, d => by simp [cp] at h
  | n, .ins _ _, _, h, d => by simp [cp] at h
  | n, .tok, _, h, d => by simp [cp] at h
  | n, .scr _, _, h, d => by simp [cp] at h
end Law
end PB
end
section
set_option Elab.async false
set_option linter.all false
set_option maxRecDepth 100000
/-! K3: the box made and asked. -/
namespace PB
namespace Law
open PySem L2
local macro_rules | `(tactic| ac_rfl) => `(tactic| simp [args, retV, callO, hvR, T.hv, T.hvIn, Ex.quiet, Ex.quiets, cmpT, isT, T.isis, T.isi, T.ty, subTy, prim1, lenT, prim2])
def pairW (w : Row) : T := .tup [.str w.2.2.1, .str w.2.2.2]
def boxF (r : Raw) : List (Str × T) := [(S "_states", tS r.st), (S "_buttons", tS r.bu), (S "_table", .dT (r.ro.map fun w => (keyW w, pairW w)))]
abbrev boxT (r : Raw) : T := .ins (S "Box") (boxF r)
theorem nsb : ¬ S "_states" = S "_buttons" := by decide +kernel
theorem nst : ¬ S "_states" = S "_table" := by decide +kernel
theorem nbt : ¬ S "_buttons" = S "_table" := by decide +kernel
theorem cps_strs (l : List Str) : cps (l.map T.str) = true := by
  induction l with
  | nil => rfl
  | cons a l ih => simp [cps, cp, ih]
theorem deps_strs (l : List Str) : T.deps (l.map T.str) = 0 := by
  induction l with
  | nil => rfl
  | cons a l ih => simp [T.deps, T.dep, ih]
theorem rows_cp (l : List Row) : cps (l.map rowT) = true ∧ T.deps (l.map rowT) ≤ 1 := by
  induction l with
  | nil => exact ⟨rfl, by simp [T.deps]⟩
  | cons a l ih =>
    obtain ⟨h1, h2⟩ := ih
    refine ⟨by simp [cps, cp, h1], ?_⟩
    simp [T.deps, T.dep]
    omega
theorem raw_cp (r : Raw) (h : r.Ok) : cp r.T = true ∧ r.T.dep ≤ 3 := by
  obtain ⟨h1, h2⟩ := rows_cp r.ro
  have := h.sl
  have := h.bl
  have := h.rl
  refine ⟨?_, ?_⟩
  · simp [cp, cps, cps_strs, h1]
    omega
  · simp [T.dep, T.deps, deps_strs]
    omega
theorem f47 (n : Nat) (r : Raw) (h : r.Ok) (d : Option Draw) : callN Γ (n + 7) 47 [tS r.st, tS r.bu, .lst (r.ro.map rowT)] d = some (.ok (true, boxT r), d) := by
  rw [call_init g47 rfl]
  have h1 : ∀ e : Option Draw, callN Γ (n + 5) 5 [tS r.st] e = some (.ok (false, .non), e) := fun e => f5 (n + 1) r.st h.sw h.sn h.s0 (by have := h.sl; omega) e
  have h2 : ∀ e : Option Draw, callN Γ (n + 5) 5 [tS r.bu] e = some (.ok (false, .non), e) := fun e => f5 (n + 1) r.bu h.bw h.bn h.bz (by have := h.bl; omega) e
  have h3 := f8 n r h
  let e0 : Ev := ⟨[some (true, .ins (S "Box") [(S "_states", tS r.st), (S "_buttons", tS r.bu)]), some (false, tS r.st), some (false, tS r.bu), some (false, .lst (r.ro.map rowT)), some (false, .non), none, none], d⟩
  have hc : ev (callN Γ (n + 5)) b47c1 e0 = _ := dcomp_pure (e1 := e0) (xs := r.ro.map rowT) (fun t => match t with | .tup [.str a, .str b, _, _] => .tup [.str a, .str b] | t => t) (fun t => match t with | .tup [.str a, .str b, _, _] => [.inr a, .inr b] | t => []) (fun t => match t with | .tup [_, _, .str a, .str b] => .tup [.str a, .str b] | t => t)
    (by simp [e0, dictAt, T.isD]) (by simp [e0, seqS, seqOf, frz1]) (by simp [Tg.slots]) (fun t ht => by
      obtain ⟨w, hw, rfl⟩ := List.mem_map.mp ht
      have l2 : 2 ≤ sizeLine := by decide
      refine ⟨[some (true, .ins (S "Box") [(S "_states", tS r.st), (S "_buttons", tS r.bu)]), some (false, tS r.st), some (false, tS r.bu), some (false, .lst (r.ro.map rowT)), some (false, .non), none, some (false, rowT w)], by simp [e0, bindT, wipeT], ⟨false, ?_⟩, ⟨false, ?_⟩, ?_⟩
      · simp [e0, Ex.quiet, ixT, atI, ixN, l2]
      · simp [e0, Ex.quiet, ixT, atI, ixN, l2]
      · simp [T.tkey, keysOf, T.key]) (by
      rw [List.map_map]
      exact h.rn) (by have := line_big; have := h.rl; simp; omega)
  rw [List.map_map] at hc
  have hc : ev (callN Γ (n + 5)) b47c1 e0 = some (.ok (true, .dT (r.ro.map fun w => (keyW w, pairW w))), e0) := hc
  simp only [e0] at hc
  simp [args, retV, callO, hvR, T.hv, T.hvIn, Ex.quiet, Ex.quiets, cmpT, isT, asgR, h1, h2, h3, prim1, itemsT, fldS, putF, nsb, nst, nbt, hc, finI, boxF]
theorem f31 (n : Nat) (r : Raw) (h : r.Ok) (d : Option Draw) : callN Γ (n + 8) 31 [r.T] d = some (.ok (true, boxT r), d) := by
  rw [call_fn g31 rfl]
  obtain ⟨h1, h2⟩ := raw_cp r h
  have hc := f27 (n + 6) r.T (by omega) h1
  have hb := f47 n r h
  simp [args, retV, callO, hvR, T.hv, T.hvIn, Ex.quiet, Ex.quiets, asgR, hc, cpB, ixT, atI, ixN, hb, boxF, frzV]
theorem lk_st (r : Raw) : lookF (boxF r) (S "_states") = some (tS r.st) := by simp [lookF, boxF]
theorem lk_bu (r : Raw) : lookF (boxF r) (S "_buttons") = some (tS r.bu) := by simp [lookF, boxF, nsb]
theorem lk_tb (r : Raw) : lookF (boxF r) (S "_table") = some (.dT (r.ro.map fun w => (keyW w, pairW w))) := by simp [lookF, boxF, nst, nbt]
/-- the row of a state and a button -/
def look (r : Raw) (s b : Str) : Option (Str × Str) := (r.ro.find? fun w => decide (w.1 = s) && decide (w.2.1 = b)).map fun w => w.2.2
def oT : Option (Str × Str) → T
  | none => .non
  | some p => .tup [.str p.1, .str p.2]
theorem look_get (r : Raw) (s b : Str) : ((getK (r.ro.map fun w => (keyW w, pairW w)) [.inr s, .inr b]).getD .non) = oT (look r s b) := by
  unfold getK look
  induction r.ro with
  | nil => rfl
  | cons w l ih =>
    have e : decide (keyW w = [Sum.inr s, Sum.inr b]) = (decide (w.1 = s) && decide (w.2.1 = b)) := by
      simp [keyW]
    simp only [List.map_cons, List.find?_cons, e]
    cases hq : (decide (w.1 = s) && decide (w.2.1 = b)) with
    | true => rfl
    | false => exact ih
@[simp] theorem f48 (n : Nat) (r : Raw) (d : Option Draw) : callN Γ (n + 1) 48 [boxT r] d = some (.ok (true, tS r.st), d) := by
  rw [call_fn g48 rfl]
  simp [args, retV, callO, hvR, T.hv, T.hvIn, Ex.quiet, Ex.quiets, prim1, itemsT, fldT, lk_st]
@[simp] theorem f49 (n : Nat) (r : Raw) (d : Option Draw) : callN Γ (n + 1) 49 [boxT r] d = some (.ok (true, tS r.bu), d) := by
  rw [call_fn g49 rfl]
  simp [args, retV, callO, hvR, T.hv, T.hvIn, Ex.quiet, Ex.quiets, prim1, itemsT, fldT, lk_bu]
@[simp] theorem f50 (n : Nat) (r : Raw) (s b : Str) (d : Option Draw) : callN Γ (n + 1) 50 [boxT r, .str s, .str b] d = some (.ok (false, oT (look r s b)), d) := by
  rw [call_fn g50 rfl]
  have l2 : 2 ≤ sizeLine := by decide
  have := look_get r s b
  simp [args, retV, callO, hvR, T.hv, T.hvIn, Ex.quiet, Ex.quiets, fldT, lk_tb, l2, T.isD, dgetT, T.tkey, keysOf, T.key, this]
end Law
end PB
end
section
set_option Elab.async false
set_option linter.all false
set_option maxRecDepth 100000
/-! K4: lots and presses, as the program tells them. -/
namespace PB
namespace Law
open PySem L2
local macro_rules | `(tactic| ac_rfl) => `(tactic| simp [args, retV, callO, hvR, T.hv, T.hvIn, Ex.quiet, Ex.quiets, cmpT, isT, T.isis, T.isi, T.ty, subTy, prim1, lenT, prim2])
theorem g9 : Γ[9]? = some (.fn 1 1 b9, false) := rfl
theorem g10 : Γ[10]? = some (.fn 2 2 b10, false) := rfl
theorem g11 : Γ[11]? = some (.fn 2 5 b11, false) := rfl
theorem g12 : Γ[12]? = some (.fn 2 2 b12, false) := rfl
theorem g13 : Γ[13]? = some (.fn 2 2 b13, false) := rfl
theorem g14 : Γ[14]? = some (.fn 3 3 b14, false) := rfl
theorem g15 : Γ[15]? = some (.fn 3 4 b15, false) := rfl
theorem g16 : Γ[16]? = some (.fn 3 3 b16, false) := rfl
theorem g17 : Γ[17]? = some (.fn 3 7 b17, false) := rfl
theorem g18 : Γ[18]? = some (.fn 3 3 b18, false) := rfl
theorem g19 : Γ[19]? = some (.fn 3 3 b19, false) := rfl
theorem g20 : Γ[20]? = some (.fn 3 3 b20, false) := rfl
/-- no text, of a known kind -/
def noStr : T → Bool
  | .non => true | .bl _ => true | .int _ => true | .lst _ => true | .tup _ => true | .dK _ => true
  | _ => false
/-- no list, no tuple, of a known kind -/
def noSeq : T → Bool
  | .non => true | .bl _ => true | .int _ => true | .str _ => true | .dK _ => true
  | _ => false
@[simp] theorem f2x (n : Nat) (t : T) (h : noStr t = true) (d : Option Draw) : callN Γ (n + 1) 2 [t] d = some (.ok (false, .bl false), d) := by
  rw [call_fn g2 rfl]
  cases t <;> first | (simp [noStr] at h; done) | ac_rfl
@[simp] theorem f0x (n : Nat) (t : T) (h : noSeq t = true) (d : Option Draw) : callN Γ (n + 1) 0 [t] d = some (.ok (false, .bl false), d) := by
  rw [call_fn g0 rfl]
  cases t <;> first | (simp [noSeq] at h; done) | ac_rfl
@[simp] theorem f6x (n : Nat) (l : List Str) (t : T) (h : noStr t = true) (d : Option Draw) : callN Γ (n + 2) 6 [.lst (l.map .str), t] d = some (.ok (false, .bl false), d) := by
  rw [call_fn g6 rfl]
  simp [args, retV, callO, hvR, T.hv, Ex.quiet, Ex.quiets, h]
@[simp] theorem f9 (n : Nat) (r : Raw) (d : Option Draw) : callN Γ (n + 1) 9 [boxT r] d = some (.ok (false, .non), d) := by
  rw [call_fn g9 rfl]
  ac_rfl
@[simp] theorem hvs_strs (l : List Str) : T.hvs (l.map T.str) = false := by
  induction l with
  | nil => rfl
  | cons a l ih => simp [T.hvs, T.hv, ih]
theorem ins_of (r : Raw) (m : Str) (h1 : ¬ S "_states" = m) (h2 : ¬ S "_buttons" = m) (h3 : ¬ S "_table" = m) : isIns (S "Box") m (boxT r) = true := by
  simp [isIns, lookF, boxF, h1, h2, h3]
@[simp] theorem ins_st (r : Raw) : isIns (S "Box") (S "states") (boxT r) = true := ins_of r _ (by decide +kernel) (by decide +kernel) (by decide +kernel)
@[simp] theorem ins_bu (r : Raw) : isIns (S "Box") (S "buttons") (boxT r) = true := ins_of r _ (by decide +kernel) (by decide +kernel) (by decide +kernel)
@[simp] theorem ins_lk (r : Raw) : isIns (S "Box") (S "looked_up") (boxT r) = true := ins_of r _ (by decide +kernel) (by decide +kernel) (by decide +kernel)
@[simp] theorem hv_oT (o : Option (Str × Str)) : (oT o).hv = false := by
  cases o <;> simp [oT, T.hv, T.hvs]
@[simp] theorem f10 (n : Nat) (r : Raw) (b : Str) (h : b ∈ r.bu) (d : Option Draw) : callN Γ (n + 3) 10 [boxT r, .str b] d = some (.ok (false, .non), d) := by
  rw [call_fn g10 rfl]
  simp [args, retV, callO, hvR, T.hv, T.hvIn, Ex.quiet, Ex.quiets, h]
theorem f10x (n : Nat) (r : Raw) (t : T) (h : noStr t = true ∨ ∃ x, t = .str x ∧ x ∉ r.bu) (d : Option Draw) : callN Γ (n + 3) 10 [boxT r, t] d = some (.exc (S "BadButton") [(S "button", t)], d) := by
  rw [call_fn g10 rfl]
  rcases h with h | ⟨x, rfl, h⟩
  · simp [args, retV, callO, hvR, T.hv, T.hvIn, Ex.quiet, Ex.quiets, h, frzV, frz1]
  · simp [args, retV, callO, hvR, T.hv, T.hvIn, Ex.quiet, Ex.quiets, h, frzV, frz1]
/-- a lot handed as a list or as a tuple -/
def lotT (k : Bool) (l : List Str) : T := if k then .lst (l.map .str) else .tup (l.map .str)
/-- what stands in a list or tuple -/
def okItem (st : List Str) : T → Bool
  | .str s => decide (s ∈ st)
  | _ => false
def typd : T → Bool
  | .str _ => true
  | t => noStr t
theorem f6y (n : Nat) (l : List Str) (t : T) (h : typd t = true) (d : Option Draw) : callN Γ (n + 2) 6 [.lst (l.map .str), t] d = some (.ok (false, .bl (okItem l t)), d) := by
  cases t <;> first | (simp [typd, noStr] at h; done) | (rw [f6]; rfl) | (rw [f6x _ _ _ (by rfl)]; rfl)
theorem f11_0 (n : Nat) (r : Raw) (t : T) (h : noSeq t = true) (d : Option Draw) : callN Γ (n + 5) 11 [boxT r, t] d = some (.ok (false, .bl false), d) := by
  rw [call_fn g11 rfl]
  simp [args, retV, callO, hvR, T.hv, T.hvIn, Ex.quiet, Ex.quiets, h]
theorem f11_e (n : Nat) (r : Raw) (d : Option Draw) : callN Γ (n + 5) 11 [boxT r, .lst []] d = some (.ok (false, .bl false), d) := by
  rw [call_fn g11 rfl]
  simp [args, retV, callO, hvR, T.hv, T.hvIn, Ex.quiet, Ex.quiets, prim1, lenT, cmpT]
/-- the first look: each item a state -/
theorem c11 (n : Nat) (r : Raw) (t : T) (ts : List T) (ht : t = .lst ts ∨ t = .tup ts) (hty : ∀ x ∈ ts, typd x = true) (hl : ts.length ≤ 1000) (d : Option Draw) : ev (callN Γ (n + 4)) b11c1 ⟨[some (false, boxT r), some (false, t), some (true, tS r.st), none, none], d⟩ = some (.ok (true, .lst (ts.map fun x => .bl (okItem r.st x))), ⟨[some (false, boxT r), some (false, t), some (true, tS r.st), none, none], d⟩) := by
  have hc : ev (callN Γ (n + 4)) b11c1 ⟨[some (false, boxT r), some (false, t), some (true, tS r.st), none, none], d⟩ = _ := comp_map (e1 := ⟨[some (false, boxT r), some (false, t), some (true, tS r.st), none, none], d⟩) (xs := ts) (fun x => .bl (okItem r.st x))
    (by rcases ht with rfl | rfl <;> simp [dictAt, T.isD]) (by rcases ht with rfl | rfl <;> simp [seqS, seqOf, frz1]) (by simp [Tg.slots]) (fun x hx => by
      refine ⟨[some (false, boxT r), some (false, t), some (true, tS r.st), none, some (false, x)], by simp [bindT, wipeT], ⟨false, ?_⟩⟩
      simp [callO, Ex.quiet, Ex.quiets, f6y (n + 2) r.st x (hty x hx), hvR, T.hv]) (by have := line_big; omega)
  exact hc
theorem f11_b (n : Nat) (r : Raw) (t : T) (ts : List T) (ht : t = .lst ts ∨ t = .tup ts) (hty : ∀ x ∈ ts, typd x = true) (hl : ts.length ≤ 1000) (hbad : ∃ x ∈ ts, okItem r.st x = false) (d : Option Draw) : callN Γ (n + 5) 11 [boxT r, t] d = some (.ok (false, .bl false), d) := by
  rw [call_fn g11 rfl]
  have hc := c11 n r t ts ht hty hl d
  have h0 : ts ≠ [] := fun z => by obtain ⟨x, hx, _⟩ := hbad; rw [z] at hx; cases hx
  have h1 : ts.length ≠ 0 := fun z => h0 (List.length_eq_zero_iff.mp z)
  rcases ht with rfl | rfl
  · simp [args, retV, callO, hvR, T.hv, T.hvIn, Ex.quiet, Ex.quiets, prim1, lenT, cmpT, asgR, hc, h0, hbad]
  · simp [args, retV, callO, hvR, T.hv, T.hvIn, Ex.quiet, Ex.quiets, prim1, lenT, cmpT, asgR, hc, h0, hbad]
theorem st_ok {r : Raw} (h : r.Ok) {l : List Str} (hm : ∀ x ∈ l, x ∈ r.st) : ∀ x ∈ l, PyData.strOk x = true := fun x hx => (h.sw x (hm x hx)).ok
/-- states handed: whether they stand in order, each once -/
theorem f11_s (n : Nat) (r : Raw) (h : r.Ok) (k : Bool) (l : List Str) (hm : ∀ x ∈ l, x ∈ r.st) (h0 : l ≠ []) (hl : l.length ≤ 1000) (d : Option Draw) : callN Γ (n + 5) 11 [boxT r, lotT k l] d = some (.ok (false, .bl (decide (r.st.filter (fun s => decide (s ∈ l)) = l))), d) := by
  rw [call_fn g11 rfl]
  have hc := c11 n r (lotT k l) (l.map .str) (by cases k <;> simp [lotT]) (fun x hx => by obtain ⟨s, _, rfl⟩ := List.mem_map.mp hx; rfl) (by simpa using hl) d
  have hall : ∀ x ∈ l, x ∈ r.st := hm
  have hc2 : ev (callN Γ (n + 4)) b11c2 ⟨[some (false, boxT r), some (false, lotT k l), some (true, tS r.st), none, none], d⟩ = _ := comp_pure (e1 := ⟨[some (false, boxT r), some (false, lotT k l), some (false, tS r.st), none, none], d⟩) (xs := r.st.map .str) (fun x => match x with | .str s => decide (s ∈ l) | _ => false) (fun x => x)
    (by simp [dictAt, T.isD]) (by simp [seqS, seqOf, frz1]) (by simp [Tg.slots]) (fun x hx => by
      obtain ⟨s, _, rfl⟩ := List.mem_map.mp hx
      refine ⟨[some (false, boxT r), some (false, lotT k l), some (false, tS r.st), none, some (false, .str s)], by simp [bindT, wipeT], ?_, fun _ => ⟨false, by simp [frz1]⟩⟩
      by_cases hs : s ∈ l <;> cases k <;> simp [lotT, Ex.quiet, cmpT, hs]) (by have := line_big; have := h.sl; simp; omega)
  have e2 : ((r.st.map T.str).filter fun x => match x with | .str s => decide (s ∈ l) | _ => false) = (r.st.filter fun s => decide (s ∈ l)).map T.str := by
    rw [List.filter_map]
    rfl
  rw [e2, List.map_id'] at hc2
  have he := eqT_strs (a := r.st.filter fun s => decide (s ∈ l)) (b := l) (fun x hx => (h.sw x (List.mem_filter.mp hx).1).ok) (st_ok h hm)
  have hb : boolsOf (List.map ((fun x => T.bl (okItem r.st x)) ∘ T.str) l) = some (l.map fun s => okItem r.st (.str s)) := boolsOf_map (fun s => okItem r.st (.str s)) l
  have ha : (l.map fun s => okItem r.st (.str s)).all id = true := by
    rw [List.all_eq_true]
    intro x hx
    obtain ⟨s, hs, rfl⟩ := List.mem_map.mp hx
    simp [okItem, hm s hs]
  generalize (l.map fun s => okItem r.st (.str s)) = bs at hb ha
  cases k with
  | true =>
    simp only [lotT, if_true] at hc hc2 ⊢
    simp [args, retV, callO, hvR, T.hv, T.hvIn, Ex.quiet, Ex.quiets, prim1, lenT, cmpT, asgR, hc, h0, hb, ha, hc2, itemsT, he]
  | false =>
    simp only [lotT, Bool.false_eq_true, if_false] at hc hc2 ⊢
    simp [args, retV, callO, hvR, T.hv, T.hvIn, Ex.quiet, Ex.quiets, prim1, lenT, cmpT, asgR, hc, h0, hb, ha, hc2, itemsT, he]
/-- a lot of the box -/
structure LotOk (r : Raw) (l : List Str) : Prop where
  m : ∀ x ∈ l, x ∈ r.st
  z : l ≠ []
  o : r.st.filter (fun s => decide (s ∈ l)) = l
theorem LotOk.len {r : Raw} {l : List Str} (h : LotOk r l) (hr : r.Ok) : l.length ≤ 8 := by
  rw [← h.o]
  exact Nat.le_trans (List.length_filter_le _ _) hr.sl
theorem f11 (n : Nat) (r : Raw) (h : r.Ok) (k : Bool) (l : List Str) (hl : LotOk r l) (d : Option Draw) : callN Γ (n + 5) 11 [boxT r, lotT k l] d = some (.ok (false, .bl true), d) := by
  rw [f11_s n r h k l hl.m hl.z (by have := hl.len h; omega) d, hl.o]
  simp
@[simp] theorem hv_box (r : Raw) : (boxT r).hv = true := rfl
theorem f12 (n : Nat) (r : Raw) (h : r.Ok) (k : Bool) (l : List Str) (hl : LotOk r l) (d : Option Draw) : callN Γ (n + 6) 12 [boxT r, lotT k l] d = some (.ok (false, .bl true), d) := by
  rw [call_fn g12 rfl]
  simp [args, retV, callO, hvR, T.hv, Ex.quiet, Ex.quiets, f11 n r h k l hl]
theorem f12x (n : Nat) (r : Raw) (t : T) (h : ∀ d, callN Γ (n + 5) 11 [boxT r, t] d = some (.ok (false, .bl false), d)) (d : Option Draw) : callN Γ (n + 6) 12 [boxT r, t] d = some (.ok (false, .bl false), d) := by
  rw [call_fn g12 rfl]
  simp [args, retV, callO, hvR, T.hv, Ex.quiet, Ex.quiets, h]
theorem f13 (n : Nat) (r : Raw) (h : r.Ok) (k : Bool) (l : List Str) (hl : LotOk r l) (d : Option Draw) : callN Γ (n + 6) 13 [boxT r, lotT k l] d = some (.ok (false, .non), d) := by
  rw [call_fn g13 rfl]
  simp [args, retV, callO, hvR, T.hv, Ex.quiet, Ex.quiets, f11 n r h k l hl]
theorem f13x (n : Nat) (r : Raw) (t : T) (h : ∀ d, callN Γ (n + 5) 11 [boxT r, t] d = some (.ok (false, .bl false), d)) (d : Option Draw) : callN Γ (n + 6) 13 [boxT r, t] d = some (.exc (S "BadLot") [(S "lot", t)], d) := by
  rw [call_fn g13 rfl]
  simp [args, retV, callO, hvR, T.hv, Ex.quiet, Ex.quiets, h, frz1]
theorem f14 (n : Nat) (r : Raw) (h : r.Ok) (k : Bool) (l : List Str) (hl : LotOk r l) (b : Str) (hb : b ∈ r.bu) (d : Option Draw) : callN Γ (n + 7) 14 [boxT r, lotT k l, .str b] d = some (.ok (false, .non), d) := by
  rw [call_fn g14 rfl]
  have h10 := f10 (n + 3) r b hb
  simp [args, retV, callO, hvR, T.hv, Ex.quiet, Ex.quiets, f13 n r h k l hl, h10]
/-- the first state of a lot that has not a button -/
def lack (r : Raw) (l : List Str) (b : Str) : Option Str := l.find? fun s => (look r s b).isNone
def osT : Option Str → T
  | none => .non
  | some s => .str s
theorem isT_oT (o : Option (Str × Str)) : isT (oT o) .non = some o.isNone := by cases o <;> rfl
theorem f15 (n : Nat) (r : Raw) (k : Bool) (l : List Str) (b : Str) (d : Option Draw) : callN Γ (n + 2) 15 [boxT r, lotT k l, .str b] d = some (.ok (false, osT (lack r l b)), d) := by
  rw [call_fn g15 rfl]
  have hf : ∀ (l' : List Str) (a : Option R), ∃ a', forL (.nm 3) (sts (callN Γ (n + 1)) b15b1) (l'.map .str) ⟨[some (false, boxT r), some (false, lotT k l), some (false, .str b), a], d⟩ = some ((match l'.find? fun s => (look r s b).isNone with | none => .next | some s => .ret (false, .str s)), ⟨[some (false, boxT r), some (false, lotT k l), some (false, .str b), a'], d⟩) := by
    intro l'
    induction l' with
    | nil => exact fun a => ⟨a, rfl⟩
    | cons s l' ih =>
      intro a
      cases hq : (look r s b).isNone with
      | true =>
        refine ⟨some (false, .str s), ?_⟩
        simp [forL, bindT, List.find?_cons, hq, callO, hvR, T.hv, Ex.quiet, Ex.quiets, cmpT, isT_oT, retV]
      | false =>
        obtain ⟨a', h⟩ := ih (some (false, .str s))
        refine ⟨a', ?_⟩
        simp only [List.find?_cons, hq]
        rw [← h]
        simp [forL, bindT, hq, callO, hvR, T.hv, Ex.quiet, Ex.quiets, cmpT, isT_oT, retV]
  obtain ⟨a', hf⟩ := hf l none
  have hs : st (callN Γ (n + 1)) b15f1 ⟨[some (false, boxT r), some (false, lotT k l), some (false, .str b), none], d⟩ = _ := (st_for (e1 := ⟨[some (false, boxT r), some (false, lotT k l), some (false, .str b), none], d⟩) (xs := l.map .str) (by cases k <;> simp [dictAt, lotT, T.isD]) (by cases k <;> simp [seqS, seqOf, frz1, lotT])).trans hf
  unfold lack
  cases hq : l.find? fun s => (look r s b).isNone with
  | none =>
    rw [hq] at hs
    simp [args, retV, hs, osT]
  | some s =>
    rw [hq] at hs
    simp [args, retV, hs, osT]
end Law
end PB
end
section
set_option Elab.async false
set_option linter.all false
set_option maxRecDepth 100000
/-! K5: blurs. -/
namespace PB
namespace Law
open PySem L2
theorem look_row {r : Raw} {s b : Str} {p : Str × Str} (h : look r s b = some p) : ∃ w ∈ r.ro, w.1 = s ∧ w.2.1 = b ∧ w.2.2 = p := by
  unfold look at h
  simp only [Option.map_eq_some_iff] at h
  obtain ⟨w, h1, h2⟩ := h
  have z := List.find?_some h1
  simp only [Bool.and_eq_true, decide_eq_true_eq] at z
  exact ⟨w, List.mem_of_find?_eq_some h1, z.1, z.2, h2⟩
theorem look_ok {r : Raw} (hr : r.Ok) {s b : Str} {p : Str × Str} (h : look r s b = some p) : PyData.strOk p.1 = true ∧ PyData.strOk p.2 = true := by
  obtain ⟨w, h1, _, _, h4⟩ := look_row h
  have z := hr.ri w h1
  rw [← h4]
  exact ⟨z.c.ok, (hr.sw _ z.d).ok⟩
theorem eqT_oT {r : Raw} (hr : r.Ok) {s b : Str} {p : Str × Str} (hp : PyData.strOk p.1 = true ∧ PyData.strOk p.2 = true) : eqT (oT (look r s b)) (oT (some p)) = some (decide (look r s b = some p)) := by
  cases h : look r s b with
  | none =>
    simp only [oT]
    rw [eqT_non_pair hp.1 hp.2]
    simp
  | some q =>
    have hq := look_ok hr h
    simp only [oT]
    rw [eqT_pair hq.1 hq.2 hp.1 hp.2]
    congr 1
    obtain ⟨q1, q2⟩ := q
    obtain ⟨p1, p2⟩ := p
    simp
/-- the first state that blurs with one -/
def mate (r : Raw) (s b : Str) (l : List Str) : Option Str := match look r s b with
  | none => none
  | some p => l.find? fun t => decide (look r t b = some p)
def blur (r : Raw) (b : Str) : List Str → Option (Str × Str)
  | [] => none
  | s :: l => match mate r s b l with
    | some t => some (s, t)
    | none => blur r b l
theorem f17_in (n : Nat) (r : Raw) (hr : r.Ok) (lt pl : T) (b s : Str) (d : Option Draw) : ∀ (l' : List Str) (o : Option R), ∃ o', forL (.nm 6) (sts (callN Γ (n + 1)) b17b1) (l'.map .str) ⟨[some (false, boxT r), some (false, lt), some (false, .str b), some (false, pl), some (false, .str s), some (false, oT (look r s b)), o], d⟩ =
    some ((match mate r s b l' with | some t => .ret (false, .tup [.str s, .str t]) | none => .next), ⟨[some (false, boxT r), some (false, lt), some (false, .str b), some (false, pl), some (false, .str s), some (false, oT (look r s b)), o'], d⟩) := by
  intro l'
  induction l' with
  | nil =>
    intro o
    refine ⟨o, ?_⟩
    unfold mate
    cases look r s b <;> rfl
  | cons t l' ih =>
    intro o
    have l2 : 2 ≤ sizeLine := by decide
    cases hs : look r s b with
    | none =>
      obtain ⟨o', h⟩ := ih (some (false, .str t))
      refine ⟨o', ?_⟩
      simp only [mate, hs] at h ⊢
      rw [← h]
      simp [forL, bindT, callO, hvR, T.hv, Ex.quiet, Ex.quiets, cmpT, oT, isT]
    | some p =>
      have he := eqT_oT hr (s := t) (b := b) (look_ok hr hs)
      cases hq : decide (look r t b = some p) with
      | true =>
        refine ⟨some (false, .str t), ?_⟩
        rw [hq] at he
        simp only [mate, hs, List.find?_cons, hq]
        simp [forL, bindT, callO, hvR, T.hv, Ex.quiet, Ex.quiets, cmpT, isT_oT, he, retV, l2, frz1]
      | false =>
        obtain ⟨o', h⟩ := ih (some (false, .str t))
        refine ⟨o', ?_⟩
        rw [hq] at he
        simp only [mate, hs, List.find?_cons, hq] at h ⊢
        rw [← h]
        simp [forL, bindT, callO, hvR, T.hv, Ex.quiet, Ex.quiets, cmpT, isT_oT, he, retV, l2, frz1]
def oPT : Option (Str × Str) → T
  | none => .non
  | some p => .tup [.str p.1, .str p.2]
theorem blur_drop {r : Raw} {b : Str} {l : List Str} {i : Nat} {s : Str} (h : l[i]? = some s) : blur r b (l.drop i) = match mate r s b (l.drop (i + 1)) with
    | some t => some (s, t)
    | none => blur r b (l.drop (i + 1)) := by
  rw [List.getElem?_eq_some_iff] at h
  obtain ⟨h1, h2⟩ := h
  rw [List.drop_eq_getElem_cons h1, h2]
  rfl
theorem cut_from1 {α : Type} (xs : List α) (i : Nat) : cutL xs (some ((i : Int) + 1)) none = xs.drop (i + 1) := cut_from xs (i + 1)
theorem f17 (n : Nat) (r : Raw) (hr : r.Ok) (k : Bool) (l : List Str) (b : Str) (d : Option Draw) : callN Γ (n + 2) 17 [boxT r, lotT k l, .str b] d = some (.ok (false, oPT (blur r b l)), d) := by
  rw [call_fn g17 rfl]
  let e0 (x y z w : Option R) : Ev := ⟨[some (false, boxT r), some (false, lotT k l), some (false, .str b), x, y, z, w], d⟩
  have hs := st_for_inv (C := callN Γ (n + 1)) (g := .tp [(.nm 3), (.nm 4)]) (it := .enum (.var 1)) (b := b17b2) (e := e0 none none none none) (e1 := e0 none none none none) (xs := enumL (l.map .str)) (fun i e => (∃ x y z w, e = e0 x y z w) ∧ blur r b l = blur r b (l.drop i)) (fun q e => e.d = d ∧ q = (false, oPT (blur r b l)))
    (by simp [dictAt]) (by cases k <;> simp [e0, seqOf, frz1, lotT]) ⟨⟨none, none, none, none, rfl⟩, by simp⟩ (fun i t e ht ⟨⟨x, y, z, w, he⟩, hb⟩ => by
      subst he
      obtain ⟨u, hu, rfl⟩ := enumL_get ht
      obtain ⟨s, hs, rfl⟩ := map_get hu
      refine ⟨(e0 (some (false, .int i)) (some (false, .str s)) z w).s, by simp [e0, bindT, bindTs], ?_⟩
      obtain ⟨o', hin⟩ := f17_in n r hr (lotT k l) (.int i) b s d (l.drop (i + 1)) w
      have hst : st (callN Γ (n + 1)) b17f1 ⟨[some (false, boxT r), some (false, lotT k l), some (false, .str b), some (false, .int i), some (false, .str s), some (false, oT (look r s b)), w], d⟩ = _ := (st_for (e1 := ⟨[some (false, boxT r), some (false, lotT k l), some (false, .str b), some (false, .int i), some (false, .str s), some (false, oT (look r s b)), w], d⟩) (xs := (l.drop (i + 1)).map .str) (by simp [dictAt]) (by
        cases k <;> simp [seqS, seqOf, lotT, slT, exQ, Ex.quiet, toInt, binT, cut_from1])).trans hin
      rw [blur_drop hs] at hb
      cases hq : mate r s b (l.drop (i + 1)) with
      | none =>
        rw [hq] at hst hb
        refine .inl ⟨e0 (some (false, .int i)) (some (false, .str s)) (some (false, oT (look r s b))) o', ?_, ⟨_, _, _, _, rfl⟩, hb⟩
        simp [e0, callO, hvR, T.hv, Ex.quiet, Ex.quiets, asgR, hst]
      | some t =>
        rw [hq] at hst hb
        refine .inr ⟨_, e0 (some (false, .int i)) (some (false, .str s)) (some (false, oT (look r s b))) o', ?_, rfl, by rw [hb]⟩
        simp [e0, callO, hvR, T.hv, Ex.quiet, Ex.quiets, asgR, hst, oPT])
  have key : ∀ x, st (callN Γ (n + 1)) b17f2 (e0 none none none none) = x → _ := fun x hx => hx
  rcases hs with ⟨e', h1, ⟨x, y, z, w, rfl⟩, h3⟩ | ⟨q, e', h1, h2, h3⟩
  · have h1 : st (callN Γ (n + 1)) b17f2 (e0 none none none none) = _ := h1
    rw [enumL_len, List.length_map, List.drop_length] at h3
    rw [h3]
    simp only [e0] at h1
    simp [args, h1, retV, blur, oPT]
  · have h1 : st (callN Γ (n + 1)) b17f2 (e0 none none none none) = _ := h1
    simp only [e0] at h1
    simp [args, h1, h3, h2]
theorem oPT_non (o : Option (Str × Str)) : isT (oPT o) .non = some o.isNone := by cases o <;> rfl
theorem osT_non (o : Option Str) : isT (osT o) .non = some o.isNone := by cases o <;> rfl
@[simp] theorem hv_oPT (o : Option (Str × Str)) : (oPT o).hv = false := by cases o <;> simp [oPT, T.hv, T.hvs]
@[simp] theorem hv_osT (o : Option Str) : (osT o).hv = false := by cases o <;> simp [osT, T.hv, T.hvs]
theorem f19 (n : Nat) (r : Raw) (hr : r.Ok) (k : Bool) (l : List Str) (b : Str) (d : Option Draw) : callN Γ (n + 3) 19 [boxT r, lotT k l, .str b] d = some (.ok (false, .bl ((lack r l b).isNone && (blur r b l).isNone)), d) := by
  rw [call_fn g19 rfl]
  have h15 := f15 n r k l b
  have h17 := f17 n r hr k l b
  cases hq : (lack r l b).isNone <;> simp [args, retV, callO, hvR, T.hv, Ex.quiet, Ex.quiets, cmpT, h15, h17, osT_non, oPT_non, hq]
theorem f16 (n : Nat) (r : Raw) (h : r.Ok) (k : Bool) (l : List Str) (hl : LotOk r l) (b : Str) (hb : b ∈ r.bu) (d : Option Draw) : callN Γ (n + 8) 16 [boxT r, lotT k l, .str b] d = some (.ok (false, .bl (lack r l b).isNone), d) := by
  rw [call_fn g16 rfl]
  have h15 := f15 (n + 5) r k l b
  simp [args, retV, callO, hvR, T.hv, Ex.quiet, Ex.quiets, cmpT, h15, osT_non, f14 n r h k l hl b hb]
theorem f18 (n : Nat) (r : Raw) (h : r.Ok) (k : Bool) (l : List Str) (hl : LotOk r l) (b : Str) (hb : b ∈ r.bu) (d : Option Draw) : callN Γ (n + 8) 18 [boxT r, lotT k l, .str b] d = some (.ok (false, oPT (blur r b l)), d) := by
  rw [call_fn g18 rfl]
  have h17 := f17 (n + 5) r h k l b
  simp [args, retV, callO, hvR, T.hv, Ex.quiet, Ex.quiets, cmpT, h17, f14 n r h k l hl b hb]
theorem f20 (n : Nat) (r : Raw) (h : r.Ok) (k : Bool) (l : List Str) (hl : LotOk r l) (b : Str) (hb : b ∈ r.bu) (d : Option Draw) : callN Γ (n + 8) 20 [boxT r, lotT k l, .str b] d = some (.ok (false, .bl ((lack r l b).isNone && (blur r b l).isNone)), d) := by
  rw [call_fn g20 rfl]
  have h19 := f19 (n + 4) r h k l b
  simp [args, retV, callO, hvR, T.hv, Ex.quiet, Ex.quiets, cmpT, h19, f14 n r h k l hl b hb]
end Law
end PB
end
section
set_option Elab.async false
set_option linter.all false
set_option maxRecDepth 100000
/-! K6: the law's own looks. -/
namespace PB
namespace Law
open PySem L2
theorem g32 : Γ[32]? = some (.fn 3 7 b32, false) := rfl
theorem g33 : Γ[33]? = some (.fn 2 4 b33, false) := rfl
theorem g38 : Γ[38]? = some (.fn 3 4 b38, false) := rfl
theorem g39 : Γ[39]? = some (.fn 4 8 b39, false) := rfl
theorem g40 : Γ[40]? = some (.fn 4 4 b40, false) := rfl
theorem g41 : Γ[41]? = some (.fn 2 5 b41, false) := rfl
/-- texts that are compared -/
def sOk (s : Str) : Prop := PyData.strOk s = true
theorem f32 (n : Nat) (r : Raw) (hr : r.Ok) (s b : Str) (hs : sOk s) (hb : sOk b) (d : Option Draw) : callN Γ (n + 1) 32 [r.T, .str s, .str b] d = some (.ok (false, oT (look r s b)), d) := by
  rw [call_fn g32 rfl]
  have l2 : 2 ≤ sizeLine := by decide
  have hf : ∀ (ro : List Row), (∀ w ∈ ro, RowIn r.st r.bu w) → ∀ (x y z u : Option R), ∃ x' y' z' u', forL (.tp [(.nm 3), (.nm 4), (.nm 5), (.nm 6)]) (sts (callN Γ n) b32b1) (ro.map rowT) ⟨[some (false, r.T), some (false, .str s), some (false, .str b), x, y, z, u], d⟩ =
      some ((match (ro.find? fun w => decide (w.1 = s) && decide (w.2.1 = b)) with | some w => .ret (false, oT (some w.2.2)) | none => .next), ⟨[some (false, r.T), some (false, .str s), some (false, .str b), x', y', z', u'], d⟩) := by
    intro ro
    induction ro with
    | nil => exact fun _ x y z u => ⟨x, y, z, u, rfl⟩
    | cons w ro ih =>
      intro hro x y z u
      have hw := hro w List.mem_cons_self
      have k1 : PyData.strOk w.1 = true := (hr.sw _ hw.a).ok
      have k2 : PyData.strOk w.2.1 = true := (hr.bw _ hw.b).ok
      have hs : PyData.strOk s = true := hs
      have hb : PyData.strOk b = true := hb
      cases hq : (decide (w.1 = s) && decide (w.2.1 = b)) with
      | true =>
        refine ⟨some (false, .str w.1), some (false, .str w.2.1), some (false, .str w.2.2.1), some (false, .str w.2.2.2), ?_⟩
        simp only [List.find?_cons, hq]
        simp only [Bool.and_eq_true, decide_eq_true_eq] at hq
        obtain ⟨q1, q2⟩ := hq
        subst q1 q2
        simp [forL, bindT, bindTs, Ex.quiet, Ex.quiets, cmpT, k1, k2, retV, l2, frz1, oT]
      | false =>
        obtain ⟨x', y', z', u', h⟩ := ih (fun w hw => hro w (List.mem_cons_of_mem _ hw)) (some (false, .str w.1)) (some (false, .str w.2.1)) (some (false, .str w.2.2.1)) (some (false, .str w.2.2.2))
        refine ⟨x', y', z', u', ?_⟩
        simp only [List.find?_cons, hq]
        rw [← h]
        by_cases q1 : w.1 = s
        · by_cases q2 : w.2.1 = b
          · simp [q1, q2] at hq
          · simp [forL, bindT, bindTs, Ex.quiet, Ex.quiets, cmpT, k1, k2, hs, hb, retV, l2, frz1, oT, q1, q2]
        · simp [forL, bindT, bindTs, Ex.quiet, Ex.quiets, cmpT, k1, k2, hs, hb, retV, l2, frz1, oT, q1]
  obtain ⟨x', y', z', u', hf⟩ := hf r.ro hr.ri none none none none
  have h1 : st (callN Γ n) b32f1 ⟨[some (false, r.T), some (false, .str s), some (false, .str b), none, none, none, none], d⟩ = _ := (st_for (e1 := ⟨[some (false, r.T), some (false, .str s), some (false, .str b), none, none, none, none], d⟩) (xs := r.ro.map rowT) (by simp [dictAt]) (by simp [Ex.quiet, ixT, atI, ixN, seqS, seqOf])).trans hf
  unfold look
  cases hq : r.ro.find? fun w => decide (w.1 = s) && decide (w.2.1 = b) with
  | none =>
    rw [hq] at h1
    simp [args, h1, retV, oT]
  | some w =>
    rw [hq] at h1
    simp [args, h1]
theorem f33 (n : Nat) (r : Raw) (hr : r.Ok) (l : List Str) (d : Option Draw) : callN Γ (n + 1) 33 [r.T, tS l] d = some (.ok (true, tS (r.st.filter fun s => decide (s ∈ l))), d) := by
  rw [call_fn g33 rfl]
  have hc : ev (callN Γ n) b33c1 ⟨[some (false, r.T), some (false, tS l), none, none], d⟩ = _ := comp_pure (e1 := ⟨[some (false, r.T), some (false, tS l), none, none], d⟩) (xs := r.st.map .str) (fun x => match x with | .str s => decide (s ∈ l) | _ => false) (fun x => x)
    (by simp [dictAt, T.isD]) (by simp [seqS, seqOf, frz1, Ex.quiet, ixT, atI, ixN]) (by simp [Tg.slots]) (fun x hx => by
      obtain ⟨s, _, rfl⟩ := List.mem_map.mp hx
      refine ⟨[some (false, r.T), some (false, tS l), none, some (false, .str s)], by simp [bindT, wipeT], ?_, fun _ => ⟨false, by simp [frz1]⟩⟩
      by_cases hs : s ∈ l <;> simp [Ex.quiet, cmpT, hs]) (by have := line_big; have := hr.sl; simp; omega)
  have e2 : ((r.st.map T.str).filter fun x => match x with | .str s => decide (s ∈ l) | _ => false) = (r.st.filter fun s => decide (s ∈ l)).map T.str := by
    rw [List.filter_map]
    rfl
  rw [e2, List.map_id'] at hc
  simp [args, retV, hc]
theorem f38 (n : Nat) (r : Raw) (hr : r.Ok) (l : List Str) (b : Str) (hl : ∀ x ∈ l, sOk x) (hb : sOk b) (d : Option Draw) : callN Γ (n + 2) 38 [r.T, tS l, .str b] d = some (.ok (false, osT (lack r l b)), d) := by
  rw [call_fn g38 rfl]
  have hf : ∀ (l' : List Str), (∀ x ∈ l', sOk x) → ∀ (a : Option R), ∃ a', forL (.nm 3) (sts (callN Γ (n + 1)) b38b1) (l'.map .str) ⟨[some (false, r.T), some (false, tS l), some (false, .str b), a], d⟩ = some ((match l'.find? fun s => (look r s b).isNone with | none => .next | some s => .ret (false, .str s)), ⟨[some (false, r.T), some (false, tS l), some (false, .str b), a'], d⟩) := by
    intro l'
    induction l' with
    | nil => exact fun _ a => ⟨a, rfl⟩
    | cons s l' ih =>
      intro hl' a
      have h32 := f32 n r hr s b (hl' s List.mem_cons_self) hb
      cases hq : (look r s b).isNone with
      | true =>
        refine ⟨some (false, .str s), ?_⟩
        simp [forL, bindT, List.find?_cons, hq, callO, hvR, T.hv, Ex.quiet, Ex.quiets, cmpT, isT_oT, retV, h32]
      | false =>
        obtain ⟨a', h⟩ := ih (fun x hx => hl' x (List.mem_cons_of_mem _ hx)) (some (false, .str s))
        refine ⟨a', ?_⟩
        simp only [List.find?_cons, hq]
        rw [← h]
        simp [forL, bindT, hq, callO, hvR, T.hv, Ex.quiet, Ex.quiets, cmpT, isT_oT, retV, h32]
  obtain ⟨a', hf⟩ := hf l hl none
  have hs : st (callN Γ (n + 1)) b38f1 ⟨[some (false, r.T), some (false, tS l), some (false, .str b), none], d⟩ = _ := (st_for (e1 := ⟨[some (false, r.T), some (false, tS l), some (false, .str b), none], d⟩) (xs := l.map .str) (by simp [dictAt, T.isD]) (by simp [seqS, seqOf, frz1])).trans hf
  unfold lack
  cases hq : l.find? fun s => (look r s b).isNone with
  | none =>
    rw [hq] at hs
    simp [args, retV, hs, osT]
  | some s =>
    rw [hq] at hs
    simp [args, retV, hs, osT]
@[simp] theorem ix_oT0 (p : Str × Str) : ixT (oT (some p)) (.int 0) = some (.str p.1) := rfl
@[simp] theorem ix_oT1 (p : Str × Str) : ixT (oT (some p)) (.int 1) = some (.str p.2) := rfl
theorem ix_at {l : List Str} {i : Nat} {s : Str} (h : l[i]? = some s) : ixT (.lst (l.map .str)) (.int i) = some (.str s) := by
  simp only [ixT]
  exact atI_nat (by simp [h])
theorem f39_in (n : Nat) (r : Raw) (hr : r.Ok) (l : List Str) (b s : Str) (i : Nat) (hi : l[i]? = some s) (hs : sOk s) (hb : sOk b) (d : Option Draw) : ∀ (l' : List Str), (∀ x ∈ l', sOk x) → ∀ (o m t : Option R), ∃ o' m' t', forL (.nm 5) (sts (callN Γ (n + 1)) b39b1) (l'.map .str) ⟨[some (false, r.T), some (false, tS l), some (false, .str b), some (false, .bl false), some (false, .int i), o, m, t], d⟩ =
    some ((match mate r s b l' with | some t => .ret (false, .tup [.str s, .str t]) | none => .next), ⟨[some (false, r.T), some (false, tS l), some (false, .str b), some (false, .bl false), some (false, .int i), o', m', t'], d⟩) := by
  intro l'
  have hat := ix_at hi
  induction l' with
  | nil =>
    intro _ o m t
    refine ⟨o, m, t, ?_⟩
    unfold mate
    cases look r s b <;> rfl
  | cons t l' ih =>
    intro hl' o m q
    have l2 : 2 ≤ sizeLine := by decide
    have h32 := f32 n r hr s b hs hb
    have h32' := f32 n r hr t b (hl' t List.mem_cons_self) hb
    obtain ⟨o', m', t', h⟩ := ih (fun x hx => hl' x (List.mem_cons_of_mem _ hx)) (some (false, .str t)) (some (false, oT (look r s b))) (some (false, oT (look r t b)))
    -- one turn
    have go : (match look r s b with | none => none | some p => if decide (look r t b = some p) = true then some t else none) = none → forL (.nm 5) (sts (callN Γ (n + 1)) b39b1) ((t :: l').map .str) ⟨[some (false, r.T), some (false, tS l), some (false, .str b), some (false, .bl false), some (false, .int i), o, m, q], d⟩ = forL (.nm 5) (sts (callN Γ (n + 1)) b39b1) (l'.map .str) ⟨[some (false, r.T), some (false, tS l), some (false, .str b), some (false, .bl false), some (false, .int i), some (false, .str t), some (false, oT (look r s b)), some (false, oT (look r t b))], d⟩ := by
      intro hno
      cases hls : look r s b with
      | none => simp [forL, bindT, callO, hvR, T.hv, Ex.quiet, Ex.quiets, cmpT, hat, h32, h32', hls, setAll, isT_oT]
      | some p =>
        have hp := look_ok hr hls
        rw [hls] at hno
        cases hlt : look r t b with
        | none => simp [forL, bindT, callO, hvR, T.hv, Ex.quiet, Ex.quiets, cmpT, hat, h32, h32', hls, hlt, setAll, isT_oT]
        | some u =>
          have hu := look_ok hr hlt
          rw [hlt] at hno
          by_cases c2 : u.2 = p.2
          · have c1 : ¬ u.1 = p.1 := fun c1 => by
              have : u = p := Prod.ext c1 c2
              simp [this] at hno
            have c1' : ¬ p.1 = u.1 := fun z => c1 z.symm
            simp [forL, bindT, callO, hvR, T.hv, Ex.quiet, Ex.quiets, cmpT, hat, h32, h32', hls, hlt, setAll, isT_oT, hp.1, hp.2, hu.1, hu.2, c2, c1']
          · have c2' : ¬ p.2 = u.2 := fun z => c2 z.symm
            simp [forL, bindT, callO, hvR, T.hv, Ex.quiet, Ex.quiets, cmpT, hat, h32, h32', hls, hlt, setAll, isT_oT, hp.1, hp.2, hu.1, hu.2, c2']
    cases hls : look r s b with
    | none =>
      refine ⟨o', m', t', ?_⟩
      rw [go (by rw [hls])]
      simp only [mate, hls] at h ⊢
      exact h
    | some p =>
      have hp := look_ok hr hls
      cases hq : decide (look r t b = some p) with
      | false =>
        refine ⟨o', m', t', ?_⟩
        rw [go (by rw [hls]; simp only [hq]; rfl)]
        simp only [mate, hls, List.find?_cons, hq] at h ⊢
        exact h
      | true =>
        have hlt : look r t b = some p := of_decide_eq_true hq
        refine ⟨some (false, .str t), some (false, oT (some p)), some (false, oT (some p)), ?_⟩
        simp only [mate, hls, List.find?_cons, hq]
        simp [forL, bindT, callO, hvR, T.hv, T.hvs, Ex.quiet, Ex.quiets, cmpT, hat, h32, h32', hls, hlt, setAll, isT_oT, hp.1, hp.2, l2, frz1, retV]
theorem e39 (C : Orc) (r : Raw) (l : List Str) (b : Str) (hl : ∀ x ∈ l, sOk x) (hz : l.length ≤ 1000) (d : Option Draw)
    (hin0 : ∀ (i : Nat) (s : Str), l[i]? = some s → sOk s → ∀ (l' : List Str), (∀ x ∈ l', sOk x) → ∀ (o m t : Option R), ∃ o' m' t', forL (.nm 5) (sts C b39b1) (l'.map .str) ⟨[some (false, r.T), some (false, tS l), some (false, .str b), some (false, .bl false), some (false, .int i), o, m, t], d⟩ =
      some ((match mate r s b l' with | some t => .ret (false, .tup [.str s, .str t]) | none => .next), ⟨[some (false, r.T), some (false, tS l), some (false, .str b), some (false, .bl false), some (false, .int i), o', m', t'], d⟩)) :
    fin (sts C b39 ⟨args [r.T, tS l, .str b, .bl false] 8, d⟩) = some (.ok (false, oPT (blur r b l)), d) := by
  let e0 (x y z w : Option R) : Ev := ⟨[some (false, r.T), some (false, tS l), some (false, .str b), some (false, .bl false), x, y, z, w], d⟩
  have hok : okR (l.length : Int) = true := okR_nat hz
  have hs := st_for_inv (C := C) (g := .nm 4) (it := .rng (.p1 .len (.var 1))) (b := b39b2) (e := e0 none none none none) (e1 := e0 none none none none) (xs := rngL 0 l.length) (fun i e => (∃ x y z w, e = e0 x y z w) ∧ blur r b l = blur r b (l.drop i)) (fun q e => e.d = d ∧ q = (false, oPT (blur r b l)))
    (by simp [dictAt]) (by have z := itL_len (C := C) (i := 1) (b := false) (s := (e0 none none none none).s) (d := d) (l := l.map .str) (by simp [e0]) (by simpa using hz); rw [List.length_map] at z; exact z) ⟨⟨none, none, none, none, rfl⟩, by simp⟩ (fun i t e ht ⟨⟨x, y, z, w, he⟩, hb'⟩ => by
      subst he
      obtain ⟨rfl, hi⟩ := rng_get ht
      have hi' : i < l.length := by omega
      obtain ⟨s, hs⟩ : ∃ s, l[i]? = some s := ⟨l[i], List.getElem?_eq_getElem hi'⟩
      refine ⟨(e0 (some (false, .int i)) y z w).s, by simp [e0, bindT], ?_⟩
      obtain ⟨o', m', t', hin⟩ := hin0 i s hs (hl s (List.mem_of_getElem? hs)) (l.drop (i + 1)) (fun x hx => hl x (List.mem_of_mem_drop hx)) y z w
      have hst : st C b39f1 (e0 (some (false, .int i)) y z w) = _ := (st_for (e1 := e0 (some (false, .int i)) y z w) (xs := (l.drop (i + 1)).map .str) (by simp [dictAt]) (by
        simp [e0, seqS, seqOf, slT, exQ, Ex.quiet, toInt, binT, cut_from1])).trans hin
      rw [blur_drop hs] at hb'
      simp only [e0] at hst
      cases hq : mate r s b (l.drop (i + 1)) with
      | none =>
        rw [hq] at hst hb'
        exact .inl ⟨e0 (some (false, .int i)) o' m' t', by simp [e0, hst], ⟨_, _, _, _, rfl⟩, hb'⟩
      | some t =>
        rw [hq] at hst hb'
        exact .inr ⟨(false, .tup [.str s, .str t]), e0 (some (false, .int i)) o' m' t', by simp [e0, hst], rfl, by rw [hb']; rfl⟩)
  rcases hs with ⟨e', h1, ⟨x, y, z, w, rfl⟩, h3⟩ | ⟨q, e', h1, h2, h3⟩
  · have h1 : st C b39f2 (e0 none none none none) = _ := h1
    rw [rng_len, show ((l.length : Nat) : Int).toNat = l.length from rfl, List.drop_length] at h3
    rw [h3]
    simp only [e0] at h1
    simp [args, h1, retV, blur, oPT]
  · have h1 : st C b39f2 (e0 none none none none) = _ := h1
    simp only [e0] at h1
    simp [args, h1, h3, h2]
theorem f39 (n : Nat) (r : Raw) (hr : r.Ok) (l : List Str) (b : Str) (hl : ∀ x ∈ l, sOk x) (hb : sOk b) (hz : l.length ≤ 1000) (d : Option Draw) : callN Γ (n + 2) 39 [r.T, tS l, .str b, .bl false] d = some (.ok (false, oPT (blur r b l)), d) := by
  rw [call_fn g39 rfl]
  exact e39 _ r l b hl hz d fun i s hi hs => f39_in n r hr l b s i hi hs hb d
theorem e40 (C : Orc) (r : Raw) (l : List Str) (b : Str) (d : Option Draw) (h38 : ∀ d, C 38 [r.T, tS l, .str b] d = some (.ok (false, osT (lack r l b)), d)) (h39 : ∀ d, C 39 [r.T, tS l, .str b, .bl false] d = some (.ok (false, oPT (blur r b l)), d)) : fin (sts C b40 ⟨args [r.T, tS l, .str b, .bl false] 4, d⟩) = some (.ok (false, .bl ((lack r l b).isNone && (blur r b l).isNone)), d) := by
  cases hq : (lack r l b).isNone <;> simp [args, retV, callO, hvR, T.hv, Ex.quiet, Ex.quiets, cmpT, h38, h39, osT_non, oPT_non, hq]
theorem f40 (n : Nat) (r : Raw) (hr : r.Ok) (l : List Str) (b : Str) (hl : ∀ x ∈ l, sOk x) (hb : sOk b) (hz : l.length ≤ 1000) (d : Option Draw) : callN Γ (n + 3) 40 [r.T, tS l, .str b, .bl false] d = some (.ok (false, .bl ((lack r l b).isNone && (blur r b l).isNone)), d) := by
  rw [call_fn g40 rfl]
  exact e40 _ r l b d (f38 n r hr l b hl hb) (f39 n r hr l b hl hb hz)
end Law
end PB
end
section
set_option Elab.async false
set_option linter.all false
set_option maxRecDepth 100000
/-! K7: what is drawn. -/
namespace PB
namespace Law
open PySem L2
theorem g21 : Γ[21]? = some (.start, false) := rfl
theorem g22 : Γ[22]? = some (.pick, false) := rfl
theorem g23 : Γ[23]? = some (.fn 3 3 b23, false) := rfl
theorem g24 : Γ[24]? = some (.fn 2 2 b24, false) := rfl
theorem g25 : Γ[25]? = some (.fn 2 5 b25, false) := rfl
theorem g28 : Γ[28]? = some (.fn 2 7 b28, false) := rfl
/-- the draws' def, in any calls -/
def PickC (C : Orc) : Prop := ∀ (d : Draw) (m : Nat) (many : Int), Dok d (m + 1) → 0 < many → many < 1073741824 → ∃ v d', C 22 [.tok, .int many] (some d) = some (.ok (false, .int v), some d') ∧ 0 ≤ v ∧ v < many ∧ Dok d' m
theorem pickC (n : Nat) : PickC (callN Γ (n + 1)) := fun d m many h h1 h2 => by
  obtain ⟨v, d', e, h3, h4, h5⟩ := pick_some h h1 h2
  refine ⟨v, d', ?_, h3, h4, h5⟩
  rw [call_pick g22]
  simp only [runF, e, Option.map_some]
theorem e23 {C : Orc} (hC : PickC C) (d : Draw) (m : Nat) (lo hi : Int) (hd : Dok d (m + 1)) (h1 : lo ≤ hi) (h2 : hi - lo < 1000000) : ∃ v d', fin (sts C b23 ⟨args [.tok, .int lo, .int hi] 3, some d⟩) = some (.ok (false, .int v), some d') ∧ lo ≤ v ∧ v ≤ hi ∧ Dok d' m := by
  obtain ⟨v, d', e, h3, h4, h5⟩ := hC d m (hi - lo + 1) hd (by omega) (by omega)
  refine ⟨lo + v, d', ?_, by omega, by omega, h5⟩
  have e1 : (if 0 > hi - lo then 0 else hi - lo) = hi - lo := by rw [if_neg (by omega)]
  simp [args, retV, callO, hvR, T.hv, Ex.quiet, Ex.quiets, binT, prim2, e1, e]
theorem f23 (n : Nat) (d : Draw) (m : Nat) (lo hi : Int) (hd : Dok d (m + 1)) (h1 : lo ≤ hi) (h2 : hi - lo < 1000000) : ∃ v d', callN Γ (n + 2) 23 [.tok, .int lo, .int hi] (some d) = some (.ok (false, .int v), some d') ∧ lo ≤ v ∧ v ≤ hi ∧ Dok d' m := by
  rw [call_fn g23 rfl]
  exact e23 (pickC n) d m lo hi hd h1 h2
theorem e24 {C : Orc} (hC : PickC C) (d : Draw) (m : Nat) (xs : List T) (h0 : xs ≠ []) (hl : xs.length ≤ 1000) (hd : Dok d (m + 1)) : ∃ x ∈ xs, ∃ d', fin (sts C b24 ⟨args [.tok, .lst xs] 2, some d⟩) = some (.ok (false, x), some d') ∧ Dok d' m := by
  have hp : 0 < xs.length := List.length_pos_iff.mpr h0
  obtain ⟨v, d', e, h3, h4, h5⟩ := hC d m (xs.length : Int) hd (by omega) (by omega)
  obtain ⟨y, h6, h7⟩ := atI_ok h3 h4
  refine ⟨y, List.mem_of_getElem? h7, d', ?_, h5⟩
  simp [args, retV, callO, hvR, T.hv, Ex.quiet, Ex.quiets, prim1, lenT, e, ixT, h6]
theorem f24 (n : Nat) (d : Draw) (m : Nat) (xs : List T) (h0 : xs ≠ []) (hl : xs.length ≤ 1000) (hd : Dok d (m + 1)) : ∃ x ∈ xs, ∃ d', callN Γ (n + 2) 24 [.tok, .lst xs] (some d) = some (.ok (false, x), some d') ∧ Dok d' m := by
  rw [call_fn g24 rfl]
  exact e24 (pickC n) d m xs h0 hl hd
theorem ixN_ok {k : Nat} {v : Int} (h1 : 0 ≤ v) (h2 : v < k) : ixN k v = some v.toNat := by
  unfold ixN
  rw [if_pos h1, if_pos h2]
theorem e25 {C : Orc} (hC : PickC C) (d : Draw) (m : Nat) (xs : List T) (hl : xs.length ≤ 1000) (hd : Dok d (m + xs.length)) : ∃ ys d', fin (sts C b25 ⟨args [.tok, .lst xs] 5, some d⟩) = some (.ok (true, .lst ys), some d') ∧ ys.length = xs.length ∧ (∀ y ∈ ys, y ∈ xs) ∧ Dok d' m := by
  have hb := line_big
  let e0 (L F : List T) (k : Option R) (d : Draw) : Ev := ⟨[some (false, .tok), some (false, .lst xs), some (true, .lst L), some (true, .lst F), k], some d⟩
  obtain ⟨e', h1, L, F, k, d', he, hF, hL, hm1, hm2, hd'⟩ := st_for_all (C := C) (g := .nm 4) (it := .rng (.p1 .len (.var 2))) (b := b25b1) (e := e0 xs [] none d) (e1 := e0 xs [] none d) (xs := rngL 0 xs.length)
    (fun i e => ∃ L F k d', e = e0 L F k d' ∧ F.length = i ∧ L.length + i = xs.length ∧ (∀ y ∈ L, y ∈ xs) ∧ (∀ y ∈ F, y ∈ xs) ∧ Dok d' (m + L.length))
    (by simp [dictAt]) (itL_len (i := 2) (b := true) (by simp [e0]) hl) ⟨xs, [], none, d, rfl, rfl, by simp, fun y h => h, (fun y h => by cases h), hd⟩ (fun i t e ht ⟨L, F, k, d1, he, hF, hL, hm1, hm2, hd1⟩ => by
      subst he
      obtain ⟨rfl, hi⟩ := rng_get ht
      have hi' : i < xs.length := by omega
      have hp : 0 < L.length := by omega
      obtain ⟨v, d2, e, h3, h4, h5⟩ := hC d1 (m + (L.length - 1)) (L.length : Int) (hd1.le (by omega)) (by omega) (by omega)
      have hv : v.toNat < L.length := by omega
      refine ⟨(e0 L F (some (false, .int i)) d1).s, e0 (L.eraseIdx v.toNat) (F ++ [L[v.toNat]]) (some (false, .int i)) d2, by simp [e0, bindT], ?_, _, _, _, _, rfl, by simp [hF], ?_, fun y hy => hm1 y (List.mem_of_mem_eraseIdx hy), fun y hy => ?_, ?_⟩
      · have q1 : F.length < sizeLine := by omega
        have q2 : -9223372036854775808 ≤ v := by omega
        have q3 : v < 9223372036854775808 := by omega
        simp [e0, isLst, Ex.quiet, Ex.quiets, prim1, lenT, callO, e, hvR, T.hv, mutS, mutT, ixN_ok h3 h4, hv, q1, q2, q3]
      · rw [List.length_eraseIdx_of_lt hv]; omega
      · rcases List.mem_append.mp hy with hy | hy
        · exact hm2 y hy
        · rw [List.mem_singleton.mp hy]
          exact hm1 _ (List.getElem_mem hv)
      · rw [List.length_eraseIdx_of_lt hv]; exact h5)
  subst he
  rw [rng_len, show ((xs.length : Nat) : Int).toNat = xs.length from rfl] at hF hL
  refine ⟨F, d', ?_, hF, hm2, hd'.le (by omega)⟩
  have h1 : st C b25f1 (e0 xs [] none d) = _ := h1
  simp only [e0] at h1
  have hl2 : xs.length ≤ sizeLine := by omega
  simp [args, retV, prim1, itemsT, setAll, h1]
theorem f25 (n : Nat) (d : Draw) (m : Nat) (xs : List T) (hl : xs.length ≤ 1000) (hd : Dok d (m + xs.length)) : ∃ ys d', callN Γ (n + 2) 25 [.tok, .lst xs] (some d) = some (.ok (true, .lst ys), some d') ∧ ys.length = xs.length ∧ (∀ y ∈ ys, y ∈ xs) ∧ Dok d' m := by
  rw [call_fn g25 rfl]
  exact e25 (pickC n) d m xs hl hd
end Law
end PB
end
section
set_option Elab.async false
set_option linter.all false
set_option maxRecDepth 100000
/-! K8: words drawn. -/
namespace PB
namespace Law
open PySem L2
theorem g29 : Γ[29]? = some (.fn 2 3 b29, false) := rfl
theorem g30 : Γ[30]? = some (.fn 2 7 b30, false) := rfl
theorem f28s (n : Nat) (s : Str) (d : Option Draw) : callN Γ (n + 1) 28 [.tok, .str s] d = some (.ok (false, .str s), d) := by
  rw [call_fn g28 rfl]
  simp [args, retV, callO, hvR, T.hv, Ex.quiet, Ex.quiets, T.isis, T.isi, T.ty, subTy]
theorem e28 {C : Orc} (hC : PickC C) (hs : ∀ s d, C 28 [.tok, .str s] d = some (.ok (false, .str s), d)) (l : List Str) (hl : l.length ≤ 1000) (d : Draw) (m : Nat) (hd : Dok d (m + 1)) : ∃ k d', fin (sts C b28 ⟨args [.tok, tS l] 7, some d⟩) = some (.ok (false, lotT k l), some d') ∧ Dok d' m := by
  have hb := line_big
  have hc : ev C b28c1 ⟨[some (false, .tok), some (false, tS l), none, none, none, none, none], some d⟩ = _ := comp_map (e1 := ⟨[some (false, .tok), some (false, tS l), none, none, none, none, none], some d⟩) (xs := l.map .str) (fun x => x)
    (by simp [dictAt, T.isD]) (by simp [seqS, seqOf, frz1]) (by simp [Tg.slots]) (fun x hx => by
      obtain ⟨s, _, rfl⟩ := List.mem_map.mp hx
      refine ⟨[some (false, .tok), some (false, tS l), none, none, none, none, some (false, .str s)], by simp [bindT, wipeT], false, ?_⟩
      simp [callO, Ex.quiet, Ex.quiets, hs, hvR, T.hv]) (by simp; omega)
  rw [List.map_id'] at hc
  obtain ⟨v, d', e, h3, h4, h5⟩ := hC d m 2 hd (by omega) (by omega)
  by_cases hv : v = 0
  · refine ⟨true, d', ?_, h5⟩
    simp [args, retV, callO, hvR, T.hv, Ex.quiet, Ex.quiets, T.isis, T.isi, T.ty, subTy, asgR, hc, e, cmpT, hv, lotT]
  · refine ⟨false, d', ?_, h5⟩
    simp [args, retV, callO, hvR, T.hv, Ex.quiet, Ex.quiets, T.isis, T.isi, T.ty, subTy, asgR, hc, e, cmpT, hv, lotT, prim1]
theorem f28 (n : Nat) (l : List Str) (hl : l.length ≤ 1000) (d : Draw) (m : Nat) (hd : Dok d (m + 1)) : ∃ k d', callN Γ (n + 2) 28 [.tok, tS l] (some d) = some (.ok (false, lotT k l), some d') ∧ Dok d' m := by
  rw [call_fn g28 rfl]
  exact e28 (pickC n) (fun s d => f28s n s d) l hl d m hd
theorem nodup_len {α : Type} [DecidableEq α] : ∀ {l t : List α}, l.Nodup → (∀ x ∈ l, x ∈ t) → l.length ≤ t.length
  | [], _, _, _ => Nat.zero_le _
  | x :: l, t, hn, h => by
    have hx : x ∈ t := h x List.mem_cons_self
    have hn' := List.nodup_cons.mp hn
    have z := nodup_len (l := l) (t := t.erase x) hn'.2 fun y hy => by
      have : y ≠ x := fun e => hn'.1 (e ▸ hy)
      exact (List.mem_erase_of_ne this).mpr (h y (List.mem_cons_of_mem _ hy))
    rw [List.length_erase_of_mem hx] at z
    have := List.length_pos_of_mem hx
    simp only [List.length_cons]
    omega
/-- letters only -/
def Ltr (x : Str) : Prop := ∀ c ∈ x.cps.toList, 97 ≤ c ∧ c ≤ 122
theorem abc_e : (S "abcdefghijklmnopqrstuvwxyz").cps.toList = [97, 98, 99, 100, 101, 102, 103, 104, 105, 106, 107, 108, 109, 110, 111, 112, 113, 114, 115, 116, 117, 118, 119, 120, 121, 122] := by decide +kernel
theorem qxyz_e : (S "qxyz").cps.toList = [113, 120, 121, 122] := by decide +kernel
theorem abj_e : (S "abcdefghij").cps.toList = [97, 98, 99, 100, 101, 102, 103, 104, 105, 106] := by decide +kernel
theorem ab_e : (S "ab").cps.toList = [97, 98] := by decide +kernel
theorem abc3_e : (S "abc").cps.toList = [97, 98, 99] := by decide +kernel
/-- a sign of a text of letters -/
theorem sign_ok {z : Str} {L : List Nat} (hz : z.cps.toList = L) (hL : ∀ c ∈ L, 97 ≤ c ∧ c ≤ 122) (hn : L.length ≤ 1000) {v : Int} (h0 : 0 ≤ v) (h1 : v < L.length) : ∃ c, ixT (.str z) (.int v) = some (.str ⟨#[c]⟩) ∧ 97 ≤ c ∧ c ≤ 122 ∧ L[v.toNat]? = some c := by
  have hv : v.toNat < L.length := by omega
  refine ⟨L[v.toNat], ?_, (hL _ (List.getElem_mem hv)).1, (hL _ (List.getElem_mem hv)).2, List.getElem?_eq_getElem hv⟩
  have hl : z.length ≤ sizeLine := by
    have := line_big
    have : z.length = L.length := by rw [← hz]; simp [Str.length]
    omega
  simp only [ixT, hl, if_true, hz]
  obtain ⟨y, h2, h3⟩ := atI_ok h0 h1
  rw [h2]
  rw [List.getElem?_eq_getElem hv] at h3
  cases h3
  rfl
theorem app_len (a b : Str) : (a ++ b).length = a.length + b.length := by
  show (a.cps ++ b.cps).size = _
  simp [Str.length]
theorem app_list (a b : Str) : (a ++ b).cps.toList = a.cps.toList ++ b.cps.toList := by
  show (a.cps ++ b.cps).toList = _
  simp
/-- the words tried, one after another -/
def gen (k : Nat) : Str := ⟨#[[113, 120, 121, 122].getD (k % 4) 0, 97 + k / 4 % 26, 97 + k / 104]⟩
theorem q4 (k : Nat) : ∃ c, [113, 120, 121, 122][k % 4]? = some c ∧ [113, 120, 121, 122].getD (k % 4) 0 = c ∧ 97 ≤ c ∧ c ≤ 122 ∧ (c = 113 ↔ k % 4 = 0) ∧ (c = 120 ↔ k % 4 = 1) ∧ (c = 121 ↔ k % 4 = 2) ∧ (c = 122 ↔ k % 4 = 3) := by
  have h : k % 4 < 4 := Nat.mod_lt _ (by omega)
  generalize k % 4 = r at h
  match r, h with
  | 0, _ => exact ⟨113, rfl, rfl, by omega⟩
  | 1, _ => exact ⟨120, rfl, rfl, by omega⟩
  | 2, _ => exact ⟨121, rfl, rfl, by omega⟩
  | 3, _ => exact ⟨122, rfl, rfl, by omega⟩
theorem gen_inj {j k : Nat} (h : gen j = gen k) : j = k := by
  unfold gen at h
  simp only [Str.mk.injEq, Array.mk.injEq, List.cons.injEq, and_true] at h
  obtain ⟨h1, h2, h3⟩ := h
  obtain ⟨c, _, e1, _, _, a1, a2, a3, a4⟩ := q4 j
  obtain ⟨c', _, e2, _, _, b1, b2, b3, b4⟩ := q4 k
  rw [e1, e2] at h1
  subst h1
  omega
theorem gen_wrd {k : Nat} (h : k < 600) : Wrd (gen k) := by
  obtain ⟨c, _, e1, h1, h2, _⟩ := q4 k
  refine ⟨by simp [gen, Str.length], by simp [gen, Str.length], fun x hx => ?_⟩
  simp only [gen, List.mem_cons, List.not_mem_nil, or_false, e1] at hx
  rcases hx with rfl | rfl | rfl
  · exact ⟨h1, h2⟩
  · omega
  · omega
theorem abc_at (v : Nat) (h : v < 26) : [97, 98, 99, 100, 101, 102, 103, 104, 105, 106, 107, 108, 109, 110, 111, 112, 113, 114, 115, 116, 117, 118, 119, 120, 121, 122][v]? = some (97 + v) := by
  have : ∀ v : Fin 26, [97, 98, 99, 100, 101, 102, 103, 104, 105, 106, 107, 108, 109, 110, 111, 112, 113, 114, 115, 116, 117, 118, 119, 120, 121, 122][v.1]? = some (97 + v.1) := by decide
  exact this ⟨v, h⟩
theorem abj_at (v : Nat) (h : v < 10) : [97, 98, 99, 100, 101, 102, 103, 104, 105, 106][v]? = some (97 + v) := by
  have : ∀ v : Fin 10, [97, 98, 99, 100, 101, 102, 103, 104, 105, 106][v.1]? = some (97 + v.1) := by decide
  exact this ⟨v, h⟩
theorem abc_b : ∀ c ∈ [97, 98, 99, 100, 101, 102, 103, 104, 105, 106, 107, 108, 109, 110, 111, 112, 113, 114, 115, 116, 117, 118, 119, 120, 121, 122], 97 ≤ c ∧ c ≤ 122 := by decide
theorem gen_ix (k : Nat) (h : k < 600) : ixT (.str (S "qxyz")) (.int ((k : Int) % 4)) = some (.str ⟨#[[113, 120, 121, 122].getD (k % 4) 0]⟩) ∧ ixT (.str (S "abcdefghijklmnopqrstuvwxyz")) (.int ((k : Int) / 4 % 26)) = some (.str ⟨#[97 + k / 4 % 26]⟩) ∧ ixT (.str (S "abcdefghij")) (.int ((k : Int) / 104)) = some (.str ⟨#[97 + k / 104]⟩) := by
  refine ⟨?_, ?_, ?_⟩
  · obtain ⟨c, h1, _, _, h4⟩ := sign_ok qxyz_e (by decide) (by decide) (v := (k : Int) % 4) (by omega) (by simp only [List.length_cons, List.length_nil]; omega)
    obtain ⟨c', e1, e2, _⟩ := q4 k
    rw [show ((k : Int) % 4).toNat = k % 4 by omega, e1] at h4
    cases h4
    rw [h1, e2]
  · obtain ⟨c, h1, _, _, h4⟩ := sign_ok abc_e abc_b (by decide) (v := (k : Int) / 4 % 26) (by omega) (by simp only [List.length_cons, List.length_nil]; omega)
    rw [show ((k : Int) / 4 % 26).toNat = k / 4 % 26 by omega, abc_at _ (by omega)] at h4
    cases h4
    rw [h1]
  · obtain ⟨c, h1, _, _, h4⟩ := sign_ok abj_e (by decide) (by decide) (v := (k : Int) / 104) (by omega) (by simp only [List.length_cons, List.length_nil]; omega)
    rw [show ((k : Int) / 104).toNat = k / 104 by omega, abj_at _ (by omega)] at h4
    cases h4
    rw [h1]
theorem e29 {C : Orc} (l : List Str) (w : Str) (hw : Wrd w) (hl : l.length ≤ 500) (d : Option Draw) : ∃ x, fin (sts C b29 ⟨args [tS l, .str w] 3, d⟩) = some (.ok (false, .str x), d) ∧ Wrd x ∧ x ∉ l := by
  have hb := line_big
  let e0 (w : Str) (x : Option R) : Ev := ⟨[some (false, tS l), some (false, .str w), x], d⟩
  have hs := st_for_inv (C := C) (g := .nm 2) (it := .rng (.con (.int 600))) (b := b29b1) (e := e0 w none) (e1 := e0 w none) (xs := rngL 0 ((600 : Nat) : Int))
    (fun i e => ∃ w x, e = e0 w x ∧ Wrd w ∧ (0 < i → w = gen (i - 1)) ∧ ∀ j, j + 1 < i → gen j ∈ l) (fun r e => ∃ x, r = (false, .str x) ∧ Wrd x ∧ x ∉ l ∧ e.d = d)
    (by simp [dictAt]) (itL_con (n := 600) (by omega)) ⟨w, none, rfl, hw, fun z => by omega, fun j z => by omega⟩ (fun i t e ht ⟨w, x, he, h1, h2, h3⟩ => by
      subst he
      obtain ⟨rfl, hi⟩ := rng_get ht
      have hi' : i < 600 := by omega
      refine ⟨(e0 w (some (false, .int i))).s, by simp [e0, bindT], ?_⟩
      by_cases hm : w ∈ l
      · obtain ⟨k1, k2, k3⟩ := gen_ix i hi'
        have l2 : (1 : Nat) + 1 ≤ sizeLine := by omega
        have l3 : (1 : Nat) + 1 + 1 ≤ sizeLine := by omega
        refine .inl ⟨e0 (gen i) (some (false, .int i)), ?_, _, _, rfl, gen_wrd hi', fun _ => by simp, fun j hj => ?_⟩
        · have e3 : (((⟨#[[113, 120, 121, 122].getD (i % 4) 0]⟩ : Str) ++ ⟨#[97 + i / 4 % 26]⟩) ++ ⟨#[97 + i / 104]⟩ : Str) = gen i := rfl
          have n1 : ∀ c : Nat, (⟨#[c]⟩ : Str).length = 1 := fun c => rfl
          simp [e0, Ex.quiet, cmpT, hm, binT, k1, k2, k3, app_len, n1, l2, l3, asgR]
          exact e3
        · by_cases hj2 : j + 1 < i
          · exact h3 j hj2
          · have : j = i - 1 := by omega
            subst this
            rw [← h2 (by omega)]
            exact hm
      · refine .inr ⟨(false, .str w), e0 w (some (false, .int i)), ?_, w, rfl, h1, hm, rfl⟩
        simp [e0, Ex.quiet, cmpT, hm, retV])
  rcases hs with ⟨e', h1, w', x, rfl, _, _, h4⟩ | ⟨q, e', h1, x, rfl, h2, h3, h4⟩
  · exfalso
    rw [rng_len] at h4
    have z := nodup_len (l := (List.range 599).map gen) (t := l) (List.Pairwise.map _ (fun a b hab e => hab (gen_inj e)) List.nodup_range) fun y hy => by
      obtain ⟨j, hj, rfl⟩ := List.mem_map.mp hy
      exact h4 j (by simp at hj ⊢; omega)
    simp at z
    omega
  · refine ⟨x, ?_, h2, h3⟩
    have h1 : st C b29f1 (e0 w none) = _ := h1
    simp only [e0] at h1
    simp [args, h1, h4]
theorem f29 (n : Nat) (l : List Str) (w : Str) (hw : Wrd w) (hl : l.length ≤ 500) (d : Option Draw) : ∃ x, callN Γ (n + 1) 29 [tS l, .str w] d = some (.ok (false, .str x), d) ∧ Wrd x ∧ x ∉ l := by
  rw [call_fn g29 rfl]
  exact e29 l w hw hl d
end Law
end PB
end
section
set_option Elab.async false
set_option linter.all false
set_option maxRecDepth 100000
/-! K9: lists of unlike words. -/
namespace PB
namespace Law
open PySem L2
def FreeC (C : Orc) : Prop := ∀ (l : List Str) (w : Str) (d : Option Draw), Wrd w → l.length ≤ 500 → ∃ x, C 29 [tS l, .str w] d = some (.ok (false, .str x), d) ∧ Wrd x ∧ x ∉ l
/-- a letter drawn -/
theorem letter {C : Orc} (hC : PickC C) {z : Str} {L : List Nat} (hz : z.cps.toList = L) (hL : ∀ c ∈ L, 97 ≤ c ∧ c ≤ 122) (hn : L.length ≤ 1000) (h0 : L ≠ []) (d : Draw) (m : Nat) (hd : Dok d (m + 1)) {s : List (Option R)} (hs : s[0]? = some (some (false, .tok))) {k : Int} (hk : k = L.length) :
    ∃ c d', ev C (.ix (.con (.str z)) (.call 22 [(.var 0), (.con (.int k))])) ⟨s, some d⟩ = some (.ok (false, .str ⟨#[c]⟩), ⟨s, some d'⟩) ∧ 97 ≤ c ∧ c ≤ 122 ∧ Dok d' m := by
  have hp : 0 < L.length := List.length_pos_iff.mpr h0
  obtain ⟨v, d', e, h3, h4, h5⟩ := hC d m k hd (by omega) (by omega)
  obtain ⟨c, h6, h7, h8, _⟩ := sign_ok hz hL hn h3 (by omega)
  refine ⟨c, d', ?_, h7, h8, h5⟩
  simp [Ex.quiet, Ex.quiets, hs, callO, e, hvR, T.hv, h6]
theorem ab_b : ∀ c ∈ [97, 98], 97 ≤ c ∧ c ≤ 122 := by decide
theorem abc3_b : ∀ c ∈ [97, 98, 99], 97 ≤ c ∧ c ≤ 122 := by decide
abbrev s30 (many : Int) (few : Bool) (F : List Str) (x y z : Option R) : List (Option R) := [some (false, .tok), some (false, .int many), some (false, .bl few), some (true, tS F), x, y, z]
/-- letters are added -/
theorem in30 {C : Orc} (hC : PickC C) (many : Int) (few : Bool) (F : List Str) (x : Option R) (n : Nat) (hn : n ≤ 7) : ∀ (w : Str) (z : Option R) (d : Draw) (m : Nat), Ltr w → w.length + n ≤ 8 → 1 ≤ w.length → Dok d (m + n) →
    ∃ w' z' d', forL (.nm 6) (sts C b30b1) (rngL 0 n) ⟨s30 many few F x (some (false, .str w)) z, some d⟩ = some (.next, ⟨s30 many few F x (some (false, .str w')) z', some d'⟩) ∧ Wrd w' ∧ Dok d' m := by
  intro w z d m hw hl h1 hd
  obtain ⟨e', g1, w', z', d', he, g2, g3, g4, g5⟩ := for_all (g := .nm 6) (b := sts C b30b1) (xs := rngL 0 n) (fun i e => ∃ w' z' d', e = ⟨s30 many few F x (some (false, .str w')) z', some d'⟩ ∧ Ltr w' ∧ w'.length = w.length + i ∧ 1 ≤ w'.length ∧ Dok d' (m + (n - i)))
    (e := ⟨s30 many few F x (some (false, .str w)) z, some d⟩) ⟨w, z, d, rfl, hw, rfl, h1, hd⟩ (fun i t e ht ⟨w1, z1, d1, he, k1, k2, k3, k4⟩ => by
      subst he
      obtain ⟨rfl, hi⟩ := rng_get ht
      have hi' : i < n := by omega
      have hb := line_big
      let s1 := s30 many few F x (some (false, .str w1)) (some (false, .int i))
      obtain ⟨c, d2, e1, c1, c2, hd2⟩ : ∃ c d2, ev C (if few then .ix (.con (.str (S "abc"))) (.call 22 [(.var 0), (.con (.int 3))]) else .ix (.con (.str (S "abcdefghijklmnopqrstuvwxyz"))) (.call 22 [(.var 0), (.con (.int 26))])) ⟨s1, some d1⟩ = some (.ok (false, .str ⟨#[c]⟩), ⟨s1, some d2⟩) ∧ 97 ≤ c ∧ c ≤ 122 ∧ Dok d2 (m + (n - (i + 1))) := by
        cases few with
        | true => exact letter hC abc3_e abc3_b (by decide) (by decide) d1 _ (k4.le (by omega)) rfl rfl
        | false => exact letter hC abc_e abc_b (by decide) (by decide) d1 _ (k4.le (by omega)) rfl rfl
      have hw2 : (w1 ++ ⟨#[c]⟩ : Str).length = w1.length + 1 := by rw [app_len]; rfl
      refine ⟨s1, ⟨s30 many few F x (some (false, .str (w1 ++ ⟨#[c]⟩))) (some (false, .int i)), some d2⟩, by simp [s1, s30, bindT], ?_, _, _, _, rfl, fun y hy => ?_, by omega, by omega, hd2⟩
      · have l1 : w1.length + 1 ≤ sizeLine := by omega
        have n1 : (⟨#[c]⟩ : Str).length = 1 := rfl
        cases few with
        | true =>
          simp only [if_true] at e1
          have e1 : ev C (.ix (.con (.str (S "abc"))) (.call 22 [(.var 0), (.con (.int 3))])) ⟨s1, some d1⟩ = _ := e1
          simp only [s1, s30] at e1 ⊢
          simp [-e_ix, e1, Ex.quiet, Ex.quiets, binT, n1, l1, asgR]
        | false =>
          simp only [Bool.false_eq_true, if_false] at e1
          simp only [s1, s30] at e1 ⊢
          simp [-e_ix, e1, Ex.quiet, Ex.quiets, binT, n1, l1, asgR]
      · rw [app_list] at hy
        rcases List.mem_append.mp hy with hy | hy
        · exact k1 y hy
        · have : y = c := by simpa using hy
          omega)
  subst he
  rw [rng_len] at g3 g5
  have : ((n : Nat) : Int).toNat = n := rfl
  rw [this] at g3 g5
  exact ⟨w', z', d', g1, ⟨g4, by omega, g2⟩, g5.le (by omega)⟩
theorem e30 {C : Orc} (hC : PickC C) (hF : FreeC C) (many : Nat) (hm : many ≤ 100) (d : Draw) (m : Nat) (hd : Dok d (m + (1 + 9 * many))) : ∃ F d', fin (sts C b30 ⟨args [.tok, .int many] 7, some d⟩) = some (.ok (true, tS F), some d') ∧ F.length = many ∧ F.Nodup ∧ (∀ x ∈ F, Wrd x) ∧ Dok d' m := by
  have hb := line_big
  obtain ⟨v0, d0, e0, _, _, hd0⟩ := hC d (m + 9 * many) 2 (hd.le (by omega)) (by omega) (by omega)
  generalize hfew : decide (v0 = 0) = few
  obtain ⟨e', g1, F, x, y, z, d', he, g2, g3, g4, g5⟩ := st_for_all (C := C) (g := .nm 4) (it := .rng (.var 1)) (b := b30b2) (e := ⟨s30 many few [] none none none, some d0⟩) (e1 := ⟨s30 many few [] none none none, some d0⟩) (xs := rngL 0 many)
    (fun i e => ∃ F x y z d', e = ⟨s30 many few F x y z, some d'⟩ ∧ F.length = i ∧ F.Nodup ∧ (∀ x ∈ F, Wrd x) ∧ Dok d' (m + 9 * (many - i)))
    (by simp [dictAt]) (itL_num (i := 1) (b := false) (by simp [s30]) (by omega)) ⟨[], none, none, none, d0, rfl, rfl, List.nodup_nil, (fun x h => by cases h), hd0⟩ (fun i t e ht ⟨F, x, y, z, d1, he, k1, k2, k3, k4⟩ => by
      subst he
      obtain ⟨rfl, hi⟩ := rng_get ht
      have hi' : i < many := by omega
      let s1 := s30 many few F (some (false, .int i)) y z
      -- the first letter
      obtain ⟨c, d2, e1, c1, c2, hd2⟩ : ∃ c d2, ev C (if few then .ix (.con (.str (S "ab"))) (.call 22 [(.var 0), (.con (.int 2))]) else .ix (.con (.str (S "abcdefghijklmnopqrstuvwxyz"))) (.call 22 [(.var 0), (.con (.int 26))])) ⟨s1, some d1⟩ = some (.ok (false, .str ⟨#[c]⟩), ⟨s1, some d2⟩) ∧ 97 ≤ c ∧ c ≤ 122 ∧ Dok d2 (m + 9 * (many - (i + 1)) + 8) := by
        cases few with
        | true => exact letter hC ab_e ab_b (by decide) (by decide) d1 _ (k4.le (by omega)) rfl rfl
        | false => exact letter hC abc_e abc_b (by decide) (by decide) d1 _ (k4.le (by omega)) rfl rfl
      -- how many more
      obtain ⟨v, d3, e2, v1, v2, hd3⟩ := hC d2 (m + 9 * (many - (i + 1)) + 7) (if few then 3 else 8) (hd2.le (by omega)) (by cases few <;> simp) (by cases few <;> simp)
      have v3 : v < 8 := by cases few <;> simp at v2 <;> omega
      obtain ⟨n, rfl⟩ : ∃ n : Nat, v = n := ⟨v.toNat, by omega⟩
      obtain ⟨w', z', d4, e3, hw', hd4⟩ := in30 hC many few F (some (false, .int i)) n (by omega) ⟨#[c]⟩ z d3 (m + 9 * (many - (i + 1))) (fun y hy => by have e : y = c := (by simpa using hy); subst e; exact ⟨c1, c2⟩) (by have : (⟨#[c]⟩ : Str).length = 1 := rfl; omega) (by have : (⟨#[c]⟩ : Str).length = 1 := rfl; omega) (hd3.le (by omega))
      obtain ⟨u, e4, hu1, hu2⟩ := hF F w' (some d4) hw' (by omega)
      have hr : itL C (.rng (.call 22 [(.var 0), (.ife (.var 2) (.con (.int 3)) (.con (.int 8)))])) ⟨s30 many few F (some (false, .int i)) (some (false, .str ⟨#[c]⟩)) z, some d2⟩ = some (.ok (rngL 0 n), ⟨s30 many few F (some (false, .int i)) (some (false, .str ⟨#[c]⟩)) z, some d3⟩) := by
        have ee : rdm (.call 22 [(.var 0), (.ife (.var 2) (.con (.int 3)) (.con (.int 8)))]) (ev C (.call 22 [(.var 0), (.ife (.var 2) (.con (.int 3)) (.con (.int 8)))])) ⟨s30 many few F (some (false, .int i)) (some (false, .str ⟨#[c]⟩)) z, some d2⟩ = some (.ok (.int n), ⟨s30 many few F (some (false, .int i)) (some (false, .str ⟨#[c]⟩)) z, some d3⟩) := by
          cases few with
          | true => simp only [if_true] at e2; simp [s30, Ex.quiet, Ex.quiets, callO, e2, hvR, T.hv]
          | false => simp only [Bool.false_eq_true, if_false] at e2; simp [s30, Ex.quiet, Ex.quiets, callO, e2, hvR, T.hv]
        rw [itL_rng, bnd_def, ee]
        exact rng_opt (C := C) (by omega) _
      have hin : st C b30f1 ⟨s30 many few F (some (false, .int i)) (some (false, .str ⟨#[c]⟩)) z, some d2⟩ = _ := (st_for (by simp [dictAt]) hr).trans e3
      refine ⟨s1, ⟨s30 many few (F ++ [u]) (some (false, .int i)) (some (false, .str w')) z', some d4⟩, by simp [s1, s30, bindT], ?_, _, _, _, _, _, rfl, by simp [k1], ?_, fun q hq => ?_, hd4⟩
      · have l1 : F.length < sizeLine := by omega
        simp only [s30] at hin
        cases few with
        | true =>
          simp only [if_true] at e1
          simp only [s1, s30] at e1 ⊢
          simp [-e_ix, e1, Ex.quiet, Ex.quiets, asgR, hin, isLst, callO, e4, hvR, T.hv, mutS, mutT, l1]
        | false =>
          simp only [Bool.false_eq_true, if_false] at e1
          simp only [s1, s30] at e1 ⊢
          simp [-e_ix, e1, Ex.quiet, Ex.quiets, asgR, hin, isLst, callO, e4, hvR, T.hv, mutS, mutT, l1]
      · rw [List.nodup_append]
        refine ⟨k2, by simp, fun a ha b hb' => ?_⟩
        rw [List.mem_singleton.mp hb']
        exact fun e => hu2 (e ▸ ha)
      · rcases List.mem_append.mp hq with hq | hq
        · exact k3 q hq
        · rw [List.mem_singleton.mp hq]; exact hu1)
  subst he
  rw [rng_len, show ((many : Nat) : Int).toNat = many from rfl] at g2 g5
  refine ⟨F, d', ?_, g2, g3, g4, g5.le (by omega)⟩
  have g1 : st C b30f2 ⟨s30 many few [] none none none, some d0⟩ = _ := g1
  simp only [s30] at g1
  rw [show tS [] = T.lst [] from rfl] at g1
  subst hfew
  simp [args, retV, callO, e0, hvR, T.hv, Ex.quiet, Ex.quiets, cmpT, setAll, g1]
theorem f30 (n : Nat) (many : Nat) (hm : many ≤ 100) (d : Draw) (m : Nat) (hd : Dok d (m + (1 + 9 * many))) : ∃ F d', callN Γ (n + 2) 30 [.tok, .int many] (some d) = some (.ok (true, tS F), some d') ∧ F.length = many ∧ F.Nodup ∧ (∀ x ∈ F, Wrd x) ∧ Dok d' m := by
  rw [call_fn g30 rfl]
  exact e30 (pickC n) (fun l w d h1 h2 => f29 n l w h1 h2 d) many hm d m hd
end Law
end PB
end
section
set_option Elab.async false
set_option linter.all false
set_option maxRecDepth 100000
/-! K10: places. -/
namespace PB
namespace Law
open PySem L2
theorem g34 : Γ[34]? = some (.fn 3 7 b34, false) := rfl
theorem g35 : Γ[35]? = some (.fn 4 15 b35, false) := rfl
theorem g36 : Γ[36]? = some (.fn 1 6 b36, false) := rfl
theorem g37 : Γ[37]? = some (.fn 3 3 b37, false) := rfl
def MixC (C : Orc) : Prop := ∀ (d : Draw) (m : Nat) (xs : List T), xs.length ≤ 1000 → Dok d (m + xs.length) → ∃ ys d', C 25 [.tok, .lst xs] (some d) = some (.ok (true, .lst ys), some d') ∧ ys.length = xs.length ∧ (∀ y ∈ ys, y ∈ xs) ∧ Dok d' m
theorem mixC25 (n : Nat) : MixC (callN Γ (n + 2)) := fun d m xs h1 h2 => f25 n d m xs h1 h2
/-- a place -/
def Plc (n : Nat) (y : T) : Prop := ∃ v : Nat, y = .int v ∧ v < n
abbrev s34 (n : Nat) (kind : Int) (a b c e : Option R) : List (Option R) := [some (false, .tok), some (false, .int n), some (false, .int kind), a, b, c, e]
theorem emod_plc {n : Nat} (h0 : 0 < n) (x : Int) : Plc n (.int (x % n)) := ⟨(x % n).toNat, by rw [Int.toNat_of_nonneg (Int.emod_nonneg _ (by omega))], by have := Int.emod_lt_of_pos x (show (0 : Int) < n by omega); have := Int.emod_nonneg x (show (n : Int) ≠ 0 by omega); omega⟩
theorem e34 {C : Orc} (hC : PickC C) (hM : MixC C) (n : Nat) (h0 : 1 ≤ n) (hn : n ≤ 100) (kind : Int) (d : Draw) (m : Nat) (hd : Dok d (m + (1 + 2 * n))) : ∃ ys d', fin (sts C b34 ⟨args [.tok, .int n, .int kind] 7, some d⟩) = some (.ok (true, .lst ys), some d') ∧ ys.length = n ∧ (∀ y ∈ ys, Plc n y) ∧ Dok d' m := by
  have hb := line_big
  have hb1 : (n : Int) ≤ sizeLine := by omega
  by_cases hk1 : kind = 1
  · obtain ⟨ys, d', e, h1, h2, h3⟩ := hM d m (rngL 0 n) (by rw [rng_len]; omega) (hd.le (by rw [rng_len]; omega))
    refine ⟨ys, d', ?_, by rw [h1, rng_len]; rfl, fun y hy => ?_, h3⟩
    · simp [args, retV, callO, hvR, T.hv, Ex.quiet, Ex.quiets, cmpT, hk1, e, okR_nat (show n ≤ 1000 by omega), hb1, toInt]
    · obtain ⟨i, hi⟩ := List.mem_iff_getElem?.mp (h2 y hy)
      obtain ⟨e, h⟩ := rng_get hi
      exact ⟨i, e, by omega⟩
  by_cases hk2 : kind = 2
  · obtain ⟨v, d1, e, v1, v2, hd1⟩ := hC d m n (hd.le (by omega)) (by omega) (by omega)
    obtain ⟨acc, d2, g1, g2, g3, g4⟩ := comp_inv (C := C) (elt := .bin .mod (.bin .add (.var 6) (.var 3)) (.var 1)) (own := [5, 6]) (g := .nm 6) (it := .rng (.var 1)) (ifs := []) (e := ⟨s34 n kind (some (false, .int v)) none none none, some d1⟩) (e1 := ⟨s34 n kind (some (false, .int v)) none none none, some d1⟩) (xs := rngL 0 n)
      (fun i acc d => d = some d1 ∧ acc.length = i ∧ ∀ y ∈ acc, Plc n y) (by simp [dictAt]) (itL_num (i := 1) (b := false) (by simp [s34]) (by omega)) (by simp [Tg.slots]) ⟨rfl, rfl, fun y h => by cases h⟩ (fun i t acc d ht ⟨k1, k2, k3⟩ => by
        subst k1
        obtain ⟨rfl, hi⟩ := rng_get ht
        have hn0 : ¬ (n : Int) = 0 := by omega
        refine ⟨s34 n kind (some (false, .int v)) none none (some (false, .int i)), by simp [bindT, wipeT, s34], true, some d1, by simp, ?_⟩
        simp only [if_true]
        refine ⟨false, .int ((i + v) % n), some d1, ?_, rfl, by simp [k2], fun y hy => ?_⟩
        · have hn1 : 0 < n := by omega
          simp [s34, Ex.quiet, Ex.quiets, binT, hn0, hn1]
        · rcases List.mem_append.mp hy with hy | hy
          · exact k3 y hy
          · rw [List.mem_singleton.mp hy]
            exact emod_plc (by omega) _) (by rw [rng_len]; omega)
    subst g2
    have g1 : ev C b34c1 ⟨s34 n kind (some (false, .int v)) none none none, some d1⟩ = _ := g1
    simp only [s34, hk2] at g1
    rw [rng_len] at g3
    refine ⟨acc, d1, ?_, by rw [g3]; rfl, g4, hd1⟩
    simp [args, retV, callO, hvR, T.hv, Ex.quiet, Ex.quiets, cmpT, hk2, e, asgR, -b34c1, g1]
  · obtain ⟨v, d1, e, v1, v2, hd1⟩ := hC d (m + 2 * n) n (hd.le (by omega)) (by omega) (by omega)
    obtain ⟨acc, d2, g1, d3, g2, g3, g4, g5⟩ := comp_inv (C := C) (elt := .ife (.and [(.cmp .eq (.var 2) (.con (.int 3))), (.cmp .gt (.call 22 [(.var 0), (.con (.int 3))]) (.con (.int 0)))]) (.var 4) (.call 22 [(.var 0), (.var 1)])) (own := [5, 6]) (g := .nm 6) (it := .rng (.var 1)) (ifs := []) (e := ⟨s34 n kind none (some (false, .int v)) none none, some d1⟩) (e1 := ⟨s34 n kind none (some (false, .int v)) none none, some d1⟩) (xs := rngL 0 n)
      (fun i acc d => ∃ d', d = some d' ∧ acc.length = i ∧ (∀ y ∈ acc, Plc n y) ∧ Dok d' (m + 2 * (n - i))) (by simp [dictAt]) (itL_num (i := 1) (b := false) (by simp [s34]) (by omega)) (by simp [Tg.slots]) ⟨d1, rfl, rfl, (fun y h => by cases h), hd1⟩ (fun i t acc d ht ⟨d2, k1, k2, k3, k4⟩ => by
        subst k1
        obtain ⟨rfl, hi⟩ := rng_get ht
        refine ⟨s34 n kind none (some (false, .int v)) none (some (false, .int i)), by simp [bindT, wipeT, s34], true, some d2, by simp, ?_⟩
        simp only [if_true]
        have key : ∃ b y d3, ev C (.ife (.and [(.cmp .eq (.var 2) (.con (.int 3))), (.cmp .gt (.call 22 [(.var 0), (.con (.int 3))]) (.con (.int 0)))]) (.var 4) (.call 22 [(.var 0), (.var 1)])) ⟨s34 n kind none (some (false, .int v)) none (some (false, .int i)), some d2⟩ = some (.ok (b, y), ⟨s34 n kind none (some (false, .int v)) none (some (false, .int i)), some d3⟩) ∧ Plc n y ∧ Dok d3 (m + 2 * (n - (i + 1))) := by
          by_cases hk3 : kind = 3
          · obtain ⟨u, d3, e3, u1, u2, hd3⟩ := hC d2 (m + 2 * (n - (i + 1)) + 1) 3 (k4.le (by omega)) (by omega) (by omega)
            by_cases hu : 0 < u
            · refine ⟨false, .int v, d3, ?_, ⟨v.toNat, by rw [Int.toNat_of_nonneg v1], by omega⟩, hd3.le (by omega)⟩
              simp [s34, Ex.quiet, Ex.quiets, callO, hvR, T.hv, cmpT, hk3, e3, hu]
            · obtain ⟨w, d4, e4, w1, w2, hd4⟩ := hC d3 (m + 2 * (n - (i + 1))) n hd3 (by omega) (by omega)
              refine ⟨false, .int w, d4, ?_, ⟨w.toNat, by rw [Int.toNat_of_nonneg w1], by omega⟩, hd4⟩
              simp [s34, Ex.quiet, Ex.quiets, callO, hvR, T.hv, cmpT, hk3, e3, hu, e4, lightM]
          · obtain ⟨w, d4, e4, w1, w2, hd4⟩ := hC d2 (m + 2 * (n - (i + 1))) n (k4.le (by omega)) (by omega) (by omega)
            refine ⟨false, .int w, d4, ?_, ⟨w.toNat, by rw [Int.toNat_of_nonneg w1], by omega⟩, hd4⟩
            simp [s34, Ex.quiet, Ex.quiets, callO, hvR, T.hv, cmpT, hk3, e4, lightM]
        obtain ⟨b, y, d3, q1, q2, q3⟩ := key
        refine ⟨b, y, some d3, q1, d3, rfl, by simp [k2], fun z hz => ?_, q3⟩
        rcases List.mem_append.mp hz with hz | hz
        · exact k3 z hz
        · rw [List.mem_singleton.mp hz]; exact q2) (by rw [rng_len]; omega)
    subst g2
    have g1 : ev C b34c2 ⟨s34 n kind none (some (false, .int v)) none none, some d1⟩ = _ := g1
    simp only [s34] at g1
    rw [rng_len] at g3 g5
    refine ⟨acc, d3, ?_, by rw [g3]; rfl, g4, g5.le (by omega)⟩
    simp [args, retV, callO, hvR, T.hv, Ex.quiet, Ex.quiets, cmpT, hk1, hk2, e, asgR, -b34c2, g1]
theorem f34 (k : Nat) (n : Nat) (h0 : 1 ≤ n) (hn : n ≤ 100) (kind : Int) (d : Draw) (m : Nat) (hd : Dok d (m + (1 + 2 * n))) : ∃ ys d', callN Γ (k + 3) 34 [.tok, .int n, .int kind] (some d) = some (.ok (true, .lst ys), some d') ∧ ys.length = n ∧ (∀ y ∈ ys, Plc n y) ∧ Dok d' m := by
  rw [call_fn g34 rfl]
  exact e34 (pickC (k + 1)) (mixC25 k) n h0 hn kind d m hd
end Law
end PB
end
section
set_option Elab.async false
set_option linter.all false
set_option maxRecDepth 100000
/-! K11: sorted rows. -/
namespace PB
namespace Law
open PySem L2
def rowAt (s b : Str) (w : Row) : Bool := decide (w.1 = s) && decide (w.2.1 = b)
def srt (r : Raw) : List Row := r.st.flatMap fun s => r.bu.flatMap fun b => r.ro.filter (rowAt s b)
abbrev s36 (r : Raw) (F : List Row) (x y : Option R) : List (Option R) := [some (false, r.T), some (true, .lst (F.map rowT)), x, y, none, none]
def rowP (s b : Str) : T → Bool
  | .tup [.str a, .str c, _, _] => decide (a = s) && decide (c = b)
  | _ => false
theorem in36 {C : Orc} (r : Raw) (s b : Str) (hw : ∀ w ∈ r.ro, sOk w.1 ∧ sOk w.2.1) (hs : sOk s) (hb : sOk b) (hz : r.ro.length ≤ 1000) (F : List Row) (d : Option Draw) : ev C b36c1 ⟨s36 r F (some (false, .str s)) (some (false, .str b)), d⟩ = some (.ok (true, .lst ((r.ro.filter (rowAt s b)).map rowT)), ⟨s36 r F (some (false, .str s)) (some (false, .str b)), d⟩) := by
  have hc : ev C b36c1 ⟨s36 r F (some (false, .str s)) (some (false, .str b)), d⟩ = _ := comp_pure (e1 := ⟨s36 r F (some (false, .str s)) (some (false, .str b)), d⟩) (xs := r.ro.map rowT) (rowP s b) (fun x => x)
    (by simp [dictAt, T.isD]) (by simp [s36, seqS, seqOf, frz1, Ex.quiet, ixT, atI, ixN]) (by simp [Tg.slots]) (fun x hx => by
      obtain ⟨w, hm, rfl⟩ := List.mem_map.mp hx
      obtain ⟨h1, h2⟩ := hw w hm
      have h1' : PyData.strOk w.1 = true := h1
      have h2' : PyData.strOk w.2.1 = true := h2
      have hs' : PyData.strOk s = true := hs
      have hb' : PyData.strOk b = true := hb
      refine ⟨[some (false, r.T), some (true, .lst (F.map rowT)), some (false, .str s), some (false, .str b), none, some (false, rowT w)], by simp [bindT, wipeT, s36], ?_, fun _ => ⟨false, by simp [frz1]⟩⟩
      by_cases q1 : w.1 = s <;> by_cases q2 : w.2.1 = b
      · subst q1 q2
        simp [Ex.quiet, cmpT, ixT, atI, ixN, rowP, hs', hb']
      · subst q1
        simp [Ex.quiet, cmpT, ixT, atI, ixN, rowP, hs', hb', h2', q2]
      · simp [Ex.quiet, cmpT, ixT, atI, ixN, rowP, hs', hb', h1', q1]
      · simp [Ex.quiet, cmpT, ixT, atI, ixN, rowP, hs', hb', h1', q1]) (by have := line_big; simp; omega)
  have e2 : ((r.ro.map rowT).filter (rowP s b)) = (r.ro.filter (rowAt s b)).map rowT := by
    rw [List.filter_map]
    rfl
  rw [e2, List.map_id'] at hc
  exact hc
theorem e36 {C : Orc} (r : Raw) (hs : ∀ x ∈ r.st, sOk x) (hb : ∀ x ∈ r.bu, sOk x) (hw : ∀ w ∈ r.ro, sOk w.1 ∧ sOk w.2.1) (sl : r.st.length ≤ 8) (bl : r.bu.length ≤ 8) (rl : r.ro.length ≤ 1000) (d : Option Draw) : fin (sts C b36 ⟨args [r.T] 6, d⟩) = some (.ok (true, .lst ((srt r).map rowT)), d) := by
  have big := line_big
  obtain ⟨e', g1, x, y, he, g2⟩ := st_for_all (C := C) (g := .nm 2) (it := .seq (.ix (.var 0) (.con (.int 0)))) (b := b36b2) (e := ⟨s36 r [] none none, d⟩) (e1 := ⟨s36 r [] none none, d⟩) (xs := r.st.map .str)
    (fun i e => ∃ x y, e = ⟨s36 r ((r.st.take i).flatMap fun s => r.bu.flatMap fun b => r.ro.filter (rowAt s b)) x y, d⟩ ∧ ((r.st.take i).flatMap fun s => r.bu.flatMap fun b => r.ro.filter (rowAt s b)).length ≤ i * 8000)
    (by simp [dictAt]) (by simp [s36, seqS, seqOf, frz1, Ex.quiet, ixT, atI, ixN]) ⟨none, none, by simp, by simp⟩ (fun i t e ht ⟨x, y, he, hl⟩ => by
      subst he
      obtain ⟨s, hi, rfl⟩ := map_get ht
      have hi8 : i < 8 := by
        have := (List.getElem?_eq_some_iff.mp hi).1
        omega
      generalize hF : ((r.st.take i).flatMap fun s => r.bu.flatMap fun b => r.ro.filter (rowAt s b)) = F at hl
      have tk : r.st.take (i + 1) = r.st.take i ++ [s] := take_succ' hi
      rw [tk, List.flatMap_append, hF]
      simp only [List.flatMap_cons, List.flatMap_nil, List.append_nil]
      obtain ⟨e', k1, y', he', k2⟩ := st_for_all (C := C) (g := .nm 3) (it := .seq (.ix (.var 0) (.con (.int 1)))) (b := b36b1) (e := ⟨s36 r F (some (false, .str s)) y, d⟩) (e1 := ⟨s36 r F (some (false, .str s)) y, d⟩) (xs := r.bu.map .str)
        (fun j e => ∃ y, e = ⟨s36 r (F ++ (r.bu.take j).flatMap fun b => r.ro.filter (rowAt s b)) (some (false, .str s)) y, d⟩ ∧ ((r.bu.take j).flatMap fun b => r.ro.filter (rowAt s b)).length ≤ j * 1000)
        (by simp [dictAt]) (by simp [s36, seqS, seqOf, frz1, Ex.quiet, ixT, atI, ixN]) ⟨y, by simp, by simp⟩ (fun j t e ht ⟨y, he, hl2⟩ => by
          subst he
          obtain ⟨b, hj, rfl⟩ := map_get ht
          have hj8 : j < 8 := by
            have := (List.getElem?_eq_some_iff.mp hj).1
            omega
          have tk : r.bu.take (j + 1) = r.bu.take j ++ [b] := take_succ' hj
          generalize hG : ((r.bu.take j).flatMap fun b => r.ro.filter (rowAt s b)) = G at hl2
          have hc := in36 (C := C) r s b hw (hs s (List.mem_of_getElem? hi)) (hb b (List.mem_of_getElem? hj)) rl (F ++ G) d
          have hfl : (r.ro.filter (rowAt s b)).length ≤ 1000 := Nat.le_trans (List.length_filter_le _ _) rl
          rw [tk, List.flatMap_append, hG]
          simp only [List.flatMap_cons, List.flatMap_nil, List.append_nil]
          refine ⟨s36 r (F ++ G) (some (false, .str s)) (some (false, .str b)), _, by simp [bindT], ?_, some (false, .str b), rfl, by simp; omega⟩
          have q : F.length + G.length + (r.ro.filter (rowAt s b)).length ≤ sizeLine := by omega
          simp only [s36, List.map_append] at hc ⊢
          simp [isLst, hc, mutS, mutT, q, List.append_assoc])
      subst he'
      have hbu : (r.bu.map T.str).length = r.bu.length := by simp
      rw [hbu] at k1 k2
      rw [List.take_of_length_le (Nat.le_refl _)] at k1 k2
      refine ⟨s36 r F (some (false, .str s)) y, _, by simp [bindT], ?_, some (false, .str s), y', rfl, by rw [List.length_append]; omega⟩
      have k1 : st C b36f1 ⟨s36 r F (some (false, .str s)) y, d⟩ = _ := k1
      simp [k1])
  subst he
  have hst : (r.st.map T.str).length = r.st.length := by simp
  rw [hst] at g1
  rw [List.take_of_length_le (Nat.le_refl _)] at g1
  have g1 : st C b36f2 ⟨s36 r [] none none, d⟩ = _ := g1
  simp only [s36, List.map_nil] at g1
  simp [args, retV, asgR, g1, srt]
theorem f36 (n : Nat) (r : Raw) (hs : ∀ x ∈ r.st, sOk x) (hb : ∀ x ∈ r.bu, sOk x) (hw : ∀ w ∈ r.ro, sOk w.1 ∧ sOk w.2.1) (sl : r.st.length ≤ 8) (bl : r.bu.length ≤ 8) (rl : r.ro.length ≤ 1000) (d : Option Draw) : callN Γ (n + 1) 36 [r.T] d = some (.ok (true, .lst ((srt r).map rowT)), d) := by
  rw [call_fn g36 rfl]
  exact e36 r hs hb hw sl bl rl d
theorem rowAt_key {s b : Str} {w : Row} (h : rowAt s b w = true) : w.1 = s ∧ w.2.1 = b := by
  simpa [rowAt] using h
theorem srt_mem {r : Raw} {w : Row} (h : w ∈ srt r) : w ∈ r.ro := by
  unfold srt at h
  obtain ⟨s, _, h⟩ := List.mem_flatMap.mp h
  obtain ⟨b, _, h⟩ := List.mem_flatMap.mp h
  exact (List.mem_filter.mp h).1
theorem srt_key {r : Raw} (hs : r.st.Nodup) (hb : r.bu.Nodup) (hr : (r.ro.map keyW).Nodup) : ((srt r).map keyW).Nodup := by
  unfold List.Nodup at hr ⊢
  rw [List.pairwise_map] at hr ⊢
  unfold srt
  rw [List.pairwise_flatMap]
  refine ⟨fun s _ => ?_, List.Pairwise.imp (fun {s s'} hss x hx y hy e => hss ?_) hs⟩
  · rw [List.pairwise_flatMap]
    refine ⟨fun b _ => hr.filter _, List.Pairwise.imp (fun {b b'} hbb x hx y hy e => hbb ?_) hb⟩
    have h1 := rowAt_key (List.mem_filter.mp hx).2
    have h2 := rowAt_key (List.mem_filter.mp hy).2
    simp only [keyW, List.cons.injEq, Sum.inr.injEq, and_true] at e
    rw [← h1.2, ← h2.2, e.2]
  · obtain ⟨b, _, hx⟩ := List.mem_flatMap.mp hx
    obtain ⟨b', _, hy⟩ := List.mem_flatMap.mp hy
    have h1 := rowAt_key (List.mem_filter.mp hx).2
    have h2 := rowAt_key (List.mem_filter.mp hy).2
    simp only [keyW, List.cons.injEq, Sum.inr.injEq, and_true] at e
    rw [← h1.1, ← h2.1, e.1]
theorem nodup_of_map {α β : Type} {f : α → β} {l : List α} (h : (l.map f).Nodup) : l.Nodup := by
  unfold List.Nodup at h ⊢
  rw [List.pairwise_map] at h
  exact h.imp fun hab e => hab (congrArg f e)
theorem srt_len {r : Raw} (hs : r.st.Nodup) (hb : r.bu.Nodup) (hr : (r.ro.map keyW).Nodup) : (srt r).length ≤ r.ro.length :=
  nodup_len (nodup_of_map (srt_key hs hb hr)) fun _ h => srt_mem h
end Law
end PB
end
section
set_option Elab.async false
set_option linter.all false
set_option maxRecDepth 100000
/-! K12: drawn boxes. -/
namespace PB
namespace Law
open PySem L2
def BetC (C : Orc) : Prop := ∀ (d : Draw) (m : Nat) (lo hi : Int), Dok d (m + 1) → lo ≤ hi → hi - lo < 1000000 → ∃ v d', C 23 [.tok, .int lo, .int hi] (some d) = some (.ok (false, .int v), some d') ∧ lo ≤ v ∧ v ≤ hi ∧ Dok d' m
def OneC (C : Orc) : Prop := ∀ (d : Draw) (m : Nat) (xs : List T), xs ≠ [] → xs.length ≤ 1000 → Dok d (m + 1) → ∃ x ∈ xs, ∃ d', C 24 [.tok, .lst xs] (some d) = some (.ok (false, x), some d') ∧ Dok d' m
def WordsC (C : Orc) : Prop := ∀ (many : Nat) (d : Draw) (m : Nat), many ≤ 100 → Dok d (m + (1 + 9 * many)) → ∃ F d', C 30 [.tok, .int many] (some d) = some (.ok (true, tS F), some d') ∧ F.length = many ∧ F.Nodup ∧ (∀ x ∈ F, Wrd x) ∧ Dok d' m
def NextC (C : Orc) : Prop := ∀ (n : Nat) (kind : Int) (d : Draw) (m : Nat), 1 ≤ n → n ≤ 100 → Dok d (m + (1 + 2 * n)) → ∃ ys d', C 34 [.tok, .int n, .int kind] (some d) = some (.ok (true, .lst ys), some d') ∧ ys.length = n ∧ (∀ y ∈ ys, Plc n y) ∧ Dok d' m
def SortC (C : Orc) : Prop := ∀ (r : Raw), (∀ x ∈ r.st, sOk x) → (∀ x ∈ r.bu, sOk x) → (∀ w ∈ r.ro, sOk w.1 ∧ sOk w.2.1) → r.st.length ≤ 8 → r.bu.length ≤ 8 → r.ro.length ≤ 1000 → ∀ d, C 36 [r.T] d = some (.ok (true, .lst ((srt r).map rowT)), d)
abbrev s35 (least most gone : Int) (F : List Str) (n : Nat) (k6 : Bool) (bu st : List Str) (Z : List Row) (W : List Str) (x10 x11 x12 x13 x14 : Option R) : List (Option R) :=
  [some (false, .tok), some (false, .int least), some (false, .int most), some (false, .int gone), some (true, tS F), some (false, .int n), some (k6, tS bu), some (true, tS st), some (true, .lst (Z.map rowT)), some (true, tS W), x10, x11, x12, x13, x14]
/-- one place -/
theorem in35 {C : Orc} (hC : PickC C) (hO : OneC C) {least most gone : Int} (hg : 0 ≤ gone ∧ gone < 1000000) {F : List Str} {n : Nat} (hn : 1 ≤ n ∧ n ≤ 100) {k6 : Bool} {bu st W : List Str} (hst : st.length = n) (hW : W ≠ []) (hWl : W.length ≤ 1000) {ys : List T} (hys : ys.length = n) (hyp : ∀ y ∈ ys, Plc n y) (b : Str) (odd : Int) (j : Nat) (hj : j < n) (Z : List Row) (hR : Z.length ≤ 1000) (x14 : Option R) (d : Draw) (m : Nat) (hd : Dok d (m + 3)) :
    ∃ Z' x14' d', sts C b35b1 ⟨s35 least most gone F n k6 bu st Z W (some (false, .str b)) (some (true, .lst ys)) (some (false, .int odd)) (some (false, .int j)) x14, some d⟩ = some (.next, ⟨s35 least most gone F n k6 bu st Z' W (some (false, .str b)) (some (true, .lst ys)) (some (false, .int odd)) (some (false, .int j)) x14', some d'⟩) ∧
      (Z' = Z ∨ ∃ a w c, st[j]? = some a ∧ w ∈ W ∧ c ∈ st ∧ Z' = Z ++ [(a, b, w, c)]) ∧ Dok d' m := by
  have big := line_big
  -- the word
  obtain ⟨w, hw, d1, e1, hd1⟩ : ∃ w ∈ W, ∃ d1, ev C (.ife (.and [(.cmp .lt (.var 12) (.con (.int 2))), (.cmp .ne (.var 13) (.call 22 [(.var 0), (.var 5)]))]) (.ix (.var 9) (.con (.int 0))) (.call 24 [(.var 0), (.var 9)])) ⟨s35 least most gone F n k6 bu st Z W (some (false, .str b)) (some (true, .lst ys)) (some (false, .int odd)) (some (false, .int j)) x14, some d⟩ = some (.ok (false, .str w), ⟨s35 least most gone F n k6 bu st Z W (some (false, .str b)) (some (true, .lst ys)) (some (false, .int odd)) (some (false, .int j)) x14, some d1⟩) ∧ Dok d1 (m + 1) := by
    have one : ∀ d0, Dok d0 (m + 2) → ∃ w ∈ W, ∃ d1, C 24 [.tok, tS W] (some d0) = some (.ok (false, .str w), some d1) ∧ Dok d1 (m + 1) := fun d0 h0 => by
      obtain ⟨x, hx, d1, e, h1⟩ := hO d0 (m + 1) (W.map .str) (by simpa using hW) (by simpa using hWl) h0
      obtain ⟨w, hw, rfl⟩ := List.mem_map.mp hx
      exact ⟨w, hw, d1, e, h1⟩
    by_cases ho : odd < 2
    · obtain ⟨v, d0, e0, v1, v2, hd0⟩ := hC d (m + 2) n (hd.le (by omega)) (by omega) (by omega)
      by_cases hv : (j : Int) = v
      · obtain ⟨w, hw, d1, e, h1⟩ := one d0 hd0
        refine ⟨w, hw, d1, ?_, h1⟩
        simp [s35, Ex.quiet, Ex.quiets, callO, hvR, T.hv, cmpT, ho, e0, hv, e]
      · obtain ⟨w, hw⟩ : ∃ w, W[0]? = some w := by
          cases W with
          | nil => exact absurd rfl hW
          | cons w W => exact ⟨w, rfl⟩
        refine ⟨w, List.mem_of_getElem? hw, d0, ?_, hd0.le (by omega)⟩
        have w0 : atI (W.map T.str) 0 = some (.str w) := atI_nat' (i := 0) (show (W.map T.str)[0]? = some (.str w) by simp [hw])
        simp [s35, Ex.quiet, Ex.quiets, callO, hvR, T.hv, cmpT, ho, e0, hv, ixT, w0]
    · obtain ⟨w, hw, d1, e, h1⟩ := one d (hd.le (by omega))
      refine ⟨w, hw, d1, ?_, h1⟩
      simp [s35, Ex.quiet, Ex.quiets, callO, hvR, T.hv, cmpT, ho, e]
  -- the places
  obtain ⟨a, ha⟩ : ∃ a, st[j]? = some a := ⟨st[j]'(by omega), List.getElem?_eq_getElem (by omega)⟩
  obtain ⟨y, hy⟩ : ∃ y, ys[j]? = some y := ⟨ys[j]'(by omega), List.getElem?_eq_getElem (by omega)⟩
  obtain ⟨k, rfl, hk⟩ := hyp y (List.mem_of_getElem? hy)
  obtain ⟨c, hc⟩ : ∃ c, st[k]? = some c := ⟨st[k]'(by omega), List.getElem?_eq_getElem (by omega)⟩
  have a1 : atI (st.map T.str) (j : Int) = some (.str a) := atI_nat' (by simp [ha])
  have a2 : atI ys (j : Int) = some (.int k) := atI_nat' hy
  have a3 : atI (st.map T.str) (k : Int) = some (.str c) := atI_nat' (by simp [hc])
  have q : Z.length < sizeLine := by omega
  have q4 : (4 : Nat) ≤ sizeLine := by omega
  -- in or not
  by_cases hg0 : gone = 0
  · refine ⟨Z ++ [(a, b, w, c)], some (false, .str w), d1, ?_, .inr ⟨a, w, c, ha, hw, List.mem_of_getElem? hc, rfl⟩, hd1.le (by omega)⟩
    simp only [s35] at e1 ⊢
    simp only [b35b1, sts_cons, sts_nil, seqM_def, s_asg, tob_def, e1]
    simp [asgR, hg0, Ex.quiet, Ex.quiets, cmpT, isLst, ixT, a1, a2, a3, mutS, mutT, q, q4]
  · obtain ⟨v, d2, e2, v1, v2, hd2⟩ := hC d1 m gone hd1 (by omega) (by omega)
    by_cases hv : 0 < v
    · refine ⟨Z ++ [(a, b, w, c)], some (false, .str w), d2, ?_, .inr ⟨a, w, c, ha, hw, List.mem_of_getElem? hc, rfl⟩, hd2⟩
      simp only [s35] at e1 ⊢
      simp only [b35b1, sts_cons, sts_nil, seqM_def, s_asg, tob_def, e1]
      simp [asgR, hg0, Ex.quiet, Ex.quiets, callO, hvR, T.hv, cmpT, e2, hv, isLst, ixT, a1, a2, a3, mutS, mutT, q, q4]
    · refine ⟨Z, some (false, .str w), d2, ?_, .inl rfl, hd2⟩
      simp only [s35] at e1 ⊢
      simp only [b35b1, sts_cons, sts_nil, seqM_def, s_asg, tob_def, e1]
      simp [asgR, hg0, Ex.quiet, Ex.quiets, callO, hvR, T.hv, cmpT, e2, hv]
/-- rows so far -/
structure RowsOk (bu st W : List Str) (i j : Nat) (b : Str) (Z : List Row) : Prop where
  k : (Z.map keyW).Nodup
  p : ∀ w ∈ Z, w.1 ∈ st ∧ w.2.1 ∈ bu ∧ w.2.2.1 ∈ W ∧ w.2.2.2 ∈ st
  q : ∀ w ∈ Z, w.2.1 ∈ bu.take i ∨ (w.2.1 = b ∧ w.1 ∈ st.take j)
  l : Z.length ≤ i * 8 + j
theorem RowsOk.next {bu st W : List Str} {i j : Nat} {b : Str} {Z : List Row} (h : RowsOk bu st W i j b Z) (hb : bu[i]? = some b) (hbn : bu.Nodup) (hsn : st.Nodup) {a w c : Str} (ha : st[j]? = some a) (hw : w ∈ W) (hc : c ∈ st) : RowsOk bu st W i (j + 1) b (Z ++ [(a, b, w, c)]) := by
  have tk := take_succ' ha
  have new : ∀ {l : List Str} {i : Nat} {x : Str}, l.Nodup → l[i]? = some x → x ∉ l.take i := fun {l i x} hn hx hm => by
    rw [List.getElem?_eq_some_iff] at hx
    obtain ⟨h1, h2⟩ := hx
    rw [List.mem_take_iff_getElem] at hm
    obtain ⟨j, hj, e2⟩ := hm
    exact List.pairwise_iff_getElem.mp hn j i (by omega) h1 (by omega) (by rw [e2, h2])
  refine ⟨?_, fun v hv => ?_, fun v hv => ?_, by have := h.l; simp; omega⟩
  · rw [List.map_append, List.nodup_append]
    refine ⟨h.k, by simp, fun x hx y hy e => ?_⟩
    obtain ⟨v, hv, rfl⟩ := List.mem_map.mp hx
    simp only [List.map_cons, List.map_nil, List.mem_singleton] at hy
    subst hy
    simp only [keyW, List.cons.injEq, Sum.inr.injEq, and_true] at e
    rcases h.q v hv with q | ⟨_, q⟩
    · exact new hbn hb (e.2 ▸ q)
    · exact new hsn ha (e.1 ▸ q)
  · rcases List.mem_append.mp hv with hv | hv
    · exact h.p v hv
    · rw [List.mem_singleton.mp hv]
      exact ⟨List.mem_of_getElem? ha, List.mem_of_getElem? hb, hw, hc⟩
  · rcases List.mem_append.mp hv with hv | hv
    · rcases h.q v hv with q | ⟨q1, q2⟩
      · exact .inl q
      · exact .inr ⟨q1, by rw [tk]; exact List.mem_append_left _ q2⟩
    · rw [List.mem_singleton.mp hv]
      exact .inr ⟨rfl, by rw [tk]; simp⟩
theorem RowsOk.stay {bu st W : List Str} {i j : Nat} {b : Str} {Z : List Row} (h : RowsOk bu st W i j b Z) : RowsOk bu st W i (j + 1) b Z :=
  ⟨h.k, h.p, fun v hv => (h.q v hv).imp id fun ⟨q1, q2⟩ => ⟨q1, by rw [List.take_add_one]; exact List.mem_append_left _ q2⟩, by have := h.l; omega⟩
theorem RowsOk.turn {bu st W : List Str} {i : Nat} {b : Str} {Z : List Row} (h : RowsOk bu st W i st.length b Z) (hb : bu[i]? = some b) (hl : st.length ≤ 8) (b' : Str) : RowsOk bu st W (i + 1) 0 b' Z :=
  ⟨h.k, h.p, fun v hv => .inl (by
    rw [take_succ' hb]
    rcases h.q v hv with q | ⟨q1, q2⟩
    · exact List.mem_append_left _ q
    · rw [q1]; simp), by have := h.l; omega⟩
theorem RowsOk.word {bu st W : List Str} {i : Nat} {b : Str} {Z : List Row} (h : RowsOk bu st W i 0 b Z) (b' : Str) : RowsOk bu st W i 0 b' Z :=
  ⟨h.k, h.p, fun v hv => (h.q v hv).imp id fun ⟨_, q2⟩ => by simp at q2, h.l⟩
theorem hvs_plc {n : Nat} : ∀ {ys : List T}, (∀ y ∈ ys, Plc n y) → T.hvs ys = false
  | [], _ => rfl
  | y :: ys, h => by
    obtain ⟨v, rfl, _⟩ := h y List.mem_cons_self
    simp only [T.hvs, T.hv, hvs_plc fun z hz => h z (List.mem_cons_of_mem _ hz), Bool.or_self]
theorem hvs_rows : ∀ (l : List Row), T.hvs (l.map rowT) = false
  | [] => rfl
  | w :: l => by simp only [List.map_cons, T.hvs, T.hv, hvs_rows l, Bool.or_self]
/-- one button -/
theorem mid35 {C : Orc} (hC : PickC C) (hO : OneC C) (hN : NextC C) {least most gone : Int} (hg : 0 ≤ gone ∧ gone < 1000000) {F : List Str} {n : Nat} (hn : 1 ≤ n ∧ n ≤ 8) {k6 : Bool} {bu st W : List Str} (hst : st.length = n) (hW : W ≠ []) (hWl : W.length ≤ 1000) (hbn : bu.Nodup) (hsn : st.Nodup) (b : Str) (i : Nat) (hi : bu[i]? = some b) (hil : i < 8) (Z : List Row) (hZ : RowsOk bu st W i 0 b Z) (x11 x12 x13 x14 : Option R) (d : Draw) (m : Nat) (hd : Dok d (m + 50)) :
    ∃ Z' x11' x12' x13' x14' d', sts C b35b2 ⟨s35 least most gone F n k6 bu st Z W (some (false, .str b)) x11 x12 x13 x14, some d⟩ = some (.next, ⟨s35 least most gone F n k6 bu st Z' W (some (false, .str b)) x11' x12' x13' x14', some d'⟩) ∧
      RowsOk bu st W (i + 1) 0 b Z' ∧ Dok d' m := by
  obtain ⟨v, d1, e1, v1, v2, hd1⟩ := hC d (m + 49) 4 hd (by omega) (by omega)
  obtain ⟨ys, d2, e2, y1, y2, hd2⟩ := hN n v d1 (m + 32) hn.1 (by omega) (hd1.le (by omega))
  obtain ⟨odd, d3, e3, o1, o2, hd3⟩ := hC d2 (m + 31) 4 hd2 (by omega) (by omega)
  obtain ⟨e', g1, Z', x13', x14', d', he, g2, g3⟩ := st_for_all (C := C) (g := .nm 13) (it := .rng (.var 5)) (b := b35b1) (e := ⟨s35 least most gone F n k6 bu st Z W (some (false, .str b)) (some (true, .lst ys)) (some (false, .int odd)) x13 x14, some d3⟩) (e1 := ⟨s35 least most gone F n k6 bu st Z W (some (false, .str b)) (some (true, .lst ys)) (some (false, .int odd)) x13 x14, some d3⟩) (xs := rngL 0 n)
    (fun j e => ∃ Z' x13' x14' d', e = ⟨s35 least most gone F n k6 bu st Z' W (some (false, .str b)) (some (true, .lst ys)) (some (false, .int odd)) x13' x14', some d'⟩ ∧ RowsOk bu st W i j b Z' ∧ Dok d' (m + 3 * (n - j)))
    (by simp [dictAt]) (itL_num (i := 5) (b := false) (by simp [s35]) (by omega)) ⟨Z, x13, x14, d3, rfl, hZ, hd3.le (by omega)⟩ (fun j t e ht ⟨Z1, x13', x14', d4, he, k1, k2⟩ => by
      subst he
      obtain ⟨rfl, hj⟩ := rng_get ht
      have hj' : j < n := by omega
      obtain ⟨Z2, x14'', d5, q1, q2, q3⟩ := in35 hC hO (least := least) (most := most) hg (F := F) ⟨hn.1, by omega⟩ (k6 := k6) (bu := bu) hst hW hWl y1 y2 b odd j hj' Z1 (by have := k1.l; omega) x14' d4 (m + 3 * (n - (j + 1))) (k2.le (by omega))
      refine ⟨s35 least most gone F n k6 bu st Z1 W (some (false, .str b)) (some (true, .lst ys)) (some (false, .int odd)) (some (false, .int j)) x14', _, by simp [bindT, s35], q1, Z2, _, _, d5, rfl, ?_, q3⟩
      rcases q2 with rfl | ⟨a, w, c, ha, hw, hc, rfl⟩
      · exact k1.stay
      · exact k1.next hi hbn hsn ha hw hc)
  subst he
  rw [rng_len, show ((n : Nat) : Int).toNat = n from rfl] at g2 g3
  refine ⟨Z', some (true, .lst ys), some (false, .int odd), x13', x14', d', ?_, (hst ▸ g2 : RowsOk bu st W i st.length b Z').turn hi (by omega) b, g3.le (by omega)⟩
  have g1 : PB.st C b35f1 ⟨s35 least most gone F n k6 bu st Z W (some (false, .str b)) (some (true, .lst ys)) (some (false, .int odd)) x13 x14, some d3⟩ = _ := g1
  simp only [s35] at g1 ⊢
  have hv := hvs_plc y2
  simp [Ex.quiet, Ex.quiets, callO, hvR, T.hv, T.hvIn, hv, e1, e2, e3, setAll, g1]
theorem wrd_ok {x : Str} (h : Wrd x) : sOk x := h.ok
/-- a drawn box -/
theorem e35 {C : Orc} (hC : PickC C) (hO : OneC C) (hN : NextC C) (hB : BetC C) (hWd : WordsC C) (hS : SortC C) (least most : Nat) (hlm : 1 ≤ least ∧ least ≤ most ∧ most ≤ 8) (gone : Int) (hg : 0 ≤ gone ∧ gone < 1000000) (d : Draw) (m : Nat) (hd : Dok d (m + 400)) :
    ∃ (r : Raw) (d' : Draw), fin (sts C b35 ⟨args [.tok, .int least, .int most, .int gone] 15, some d⟩) = some (.ok (true, r.T), some d') ∧ r.Ok ∧ least ≤ r.st.length ∧ r.st.length ≤ most ∧ r.bu.length ≤ 4 ∧ Dok d' m := by
  have big := line_big
  obtain ⟨F, d1, e1, f1, f2, f3, hd1⟩ := hWd (most + 4) d (m + 280) (by omega) (hd.le (by omega))
  obtain ⟨v, d2, e2, v1, v2, hd2⟩ := hB d1 (m + 279) least most hd1 (by omega) (by omega)
  obtain ⟨n, rfl⟩ : ∃ n : Nat, v = n := ⟨v.toNat, by omega⟩
  obtain ⟨u, d3, e3, u1, u2, hd3⟩ := hC d2 (m + 278) 4 hd2 (by omega) (by omega)
  obtain ⟨bn, rfl⟩ : ∃ n : Nat, u = n := ⟨u.toNat, by omega⟩
  obtain ⟨x, d4, e4, x1, x2, hd4⟩ := hC d3 (m + 277) 3 hd3 (by omega) (by omega)
  obtain ⟨wn, rfl⟩ : ∃ n : Nat, x = n := ⟨x.toNat, by omega⟩
  obtain ⟨W, d5, e5, w1, w2, w3, hd5⟩ := hWd (1 + wn) d4 (m + 249) (by omega) (hd4.le (by omega))
  generalize hst : F.take n = st
  generalize hbu : (F.drop most).take (1 + bn) = bu
  have stl : st.length = n := by rw [← hst, List.length_take]; omega
  have bul : bu.length = 1 + bn := by rw [← hbu, List.length_take, List.length_drop]; omega
  have stn : st.Nodup := by rw [← hst]; exact f2.sublist (List.take_sublist _ _)
  have bun : bu.Nodup := by rw [← hbu]; exact f2.sublist ((List.take_sublist _ _).trans (List.drop_sublist _ _))
  have stw : ∀ x ∈ st, Wrd x := fun x hx => f3 x (List.mem_of_mem_take (hst ▸ hx))
  have buw : ∀ x ∈ bu, Wrd x := fun x hx => f3 x (List.mem_of_mem_drop (List.mem_of_mem_take (hbu ▸ hx)))
  have hW0 : W ≠ [] := fun e => by rw [e] at w1; simp at w1; omega
  obtain ⟨e', g1, Z, x10, x11, x12, x13, x14, d6, he, g2, g3⟩ := st_for_all (C := C) (g := .nm 10) (it := .seq (.var 6)) (b := b35b2) (e := ⟨s35 least most gone F n true bu st [] W none none none none none, some d5⟩) (e1 := ⟨s35 least most gone F n false bu st [] W none none none none none, some d5⟩) (xs := bu.map .str)
    (fun i e => ∃ Z x10 x11 x12 x13 x14 d', e = ⟨s35 least most gone F n false bu st Z W x10 x11 x12 x13 x14, some d'⟩ ∧ RowsOk bu st W i 0 (S "") Z ∧ Dok d' (m + 50 * (4 - i)))
    (by simp [dictAt, T.isD]) (by simp [s35, seqS, seqOf, frz1]) ⟨[], none, none, none, none, none, d5, rfl, ⟨List.nodup_nil, (fun w h => by cases h), (fun w h => by cases h), Nat.zero_le _⟩, hd5.le (by omega)⟩ (fun i t e ht ⟨Z, x10, x11, x12, x13, x14, d6, he, k1, k2⟩ => by
      subst he
      obtain ⟨b, hi, rfl⟩ := map_get ht
      have hi4 : i < 4 := by
        have := (List.getElem?_eq_some_iff.mp hi).1
        omega
      obtain ⟨Z', x11', x12', x13', x14', d7, q1, q2, q3⟩ := mid35 hC hO hN (least := least) (most := most) hg (F := F) ⟨by omega, by omega⟩ (k6 := false) (bu := bu) stl hW0 (by omega) bun stn b i hi (by omega) Z (k1.word b) x11 x12 x13 x14 d6 (m + 50 * (4 - (i + 1))) (k2.le (by omega))
      exact ⟨s35 least most gone F n false bu st Z W (some (false, .str b)) x11 x12 x13 x14, _, by simp [bindT, s35], q1, Z', _, _, _, _, _, d7, rfl, q2.word (S ""), q3⟩)
  subst he
  rw [List.length_map, bul] at g2 g3
  have zl : Z.length ≤ 1000 := by have := g2.l; omega
  have hsort := hS ⟨st, bu, Z⟩ (fun x h => wrd_ok (stw x h)) (fun x h => wrd_ok (buw x h)) (fun w h => ⟨wrd_ok (stw _ (g2.p w h).1), wrd_ok (buw _ (g2.p w h).2.1)⟩) (by show st.length ≤ 8; omega) (by show bu.length ≤ 8; omega) zl (some d6)
  refine ⟨⟨st, bu, srt ⟨st, bu, Z⟩⟩, d6, ?_, ⟨stw, stn, fun e => ?_, by show st.length ≤ 8; omega, buw, bun, fun e => ?_, by show bu.length ≤ 8; omega, fun w h => ?_, srt_key stn bun g2.k, Nat.le_trans (srt_len stn bun g2.k) zl⟩, by show least ≤ st.length; omega, by show st.length ≤ most; omega, by show bu.length ≤ 4; omega, g3.le (by omega)⟩
  · have g1 : PB.st C b35f2 ⟨s35 least most gone F n true bu st [] W none none none none none, some d5⟩ = _ := g1
    simp only [s35, List.map_nil] at g1
    have c1 : cutL (F.map T.str) (some (most : Int)) none = (F.map T.str).drop most := by rw [cut_from]
    have c2 : cutL ((F.map T.str).drop most) none (some (1 + (bn : Int))) = bu.map .str := by
      have := cut_to ((F.map T.str).drop most) (1 + bn)
      rw [← List.map_drop, ← List.map_take, hbu, List.map_drop] at this
      rw [← this]
      norm_cast
    have c3 : cutL (F.map T.str) none (some (n : Int)) = st.map .str := by rw [cut_to, ← List.map_take, hst]
    have e1 : C 30 [T.tok, T.int ((most : Int) + 4)] (some d) = _ := e1
    have e5 : C 30 [T.tok, T.int (1 + (wn : Int))] (some d4) = some (.ok (true, tS W), some d5) := by rw [← e5]; norm_cast
    have q3 : 3 ≤ sizeLine := by omega
    have hsort : C 36 [.lst [tS st, tS bu, .lst (Z.map rowT)]] (some d6) = _ := hsort
    simp [args, retV, callO, hvR, T.hv, T.hvIn, Ex.quiet, Ex.quiets, exQ, binT, asgR, setAll, slT, toInt, e1, e2, e3, e4, e5, c1, c2, c3, g1, q3, hsort, hvs_rows, frz1]
  · rw [show st = [] from e] at stl; simp at stl; omega
  · rw [show bu = [] from e] at bul; simp at bul; omega
  · have hm := srt_mem h
    obtain ⟨p1, p2, p3, p4⟩ := g2.p w hm
    exact ⟨p1, p2, w3 _ p3, p4⟩
theorem f35 (k : Nat) (least most : Nat) (hlm : 1 ≤ least ∧ least ≤ most ∧ most ≤ 8) (gone : Int) (hg : 0 ≤ gone ∧ gone < 1000000) (d : Draw) (m : Nat) (hd : Dok d (m + 400)) :
    ∃ (r : Raw) (d' : Draw), callN Γ (k + 4) 35 [.tok, .int least, .int most, .int gone] (some d) = some (.ok (true, r.T), some d') ∧ r.Ok ∧ least ≤ r.st.length ∧ r.st.length ≤ most ∧ r.bu.length ≤ 4 ∧ Dok d' m := by
  rw [call_fn g35 rfl]
  exact e35 (pickC (k + 2)) (fun d m xs h1 h2 h3 => f24 (k + 1) d m xs h1 h2 h3) (fun n kind d m h1 h2 h3 => f34 k n h1 h2 kind d m h3) (fun d m lo hi h1 h2 h3 => f23 (k + 1) d m lo hi h1 h2 h3) (fun many d m h1 h2 => f30 (k + 1) many h1 d m h2) (fun r h1 h2 h3 h4 h5 h6 d => f36 (k + 2) r h1 h2 h3 h4 h5 h6 d) least most hlm gone hg d m hd
end Law
end PB
end
section
set_option Elab.async false
set_option linter.all false
set_option maxRecDepth 100000
/-! K13: the same; drawn lots. -/
namespace PB
namespace Law
open PySem L2
theorem g26 : Γ[26]? = some (.fn 2 6 b26, false) := rfl
theorem bools_t {α : Type} : ∀ (xs : List α), boolsOf (xs.map fun _ => T.bl true) = some (xs.map fun _ => true)
  | [] => rfl
  | _ :: xs => by simp [boolsOf, bools_t xs]
theorem all_t {α : Type} (xs : List α) : prim1 .all (.lst (xs.map fun _ => .bl true)) = some (false, .bl true) := by
  simp [prim1, bools_t]
mutual
/-- values that are the same as themselves -/
def sd : T → Bool
  | .non => true | .bl _ => true | .int _ => true | .str x => PyData.strOk x
  | .lst xs => sds xs && decide (xs.length ≤ 100000)
  | .tup xs => sds xs && decide (xs.length ≤ 100000)
  | .dK kvs => kvs.isEmpty
  | _ => false
def sds : List T → Bool
  | [] => true
  | t :: ts => sd t && sds ts
end
theorem sds_mem : ∀ {ts : List T}, sds ts = true → ∀ t ∈ ts, sd t = true
  | [], _, _, h => nomatch h
  | t :: ts, h, x, hx => by
    simp only [sds, Bool.and_eq_true] at h
    rcases List.mem_cons.mp hx with e | e
    · rw [e]; exact h.1
    · exact sds_mem h.2 x e
theorem zip_self : ∀ (xs : List T), (xs.zip xs).map pairT = xs.map fun x => .tup [x, x]
  | [] => rfl
  | x :: xs => by simp [zip_self xs, pairT]
def SameC (C : Orc) (t : T) : Prop := ∀ d, C 26 [t, t] d = some (.ok (false, .bl true), d)
theorem in26 {C : Orc} (xs : List T) (s : List (Option R)) (a : T) (h0 : s = [some (false, a), some (false, a), none, none, none, none]) (ha : a = .lst xs ∨ a = .tup xs) (hC : ∀ x ∈ xs, SameC C x) (hl : xs.length ≤ 100000) (d : Option Draw) : ev C b26c1 ⟨s, d⟩ = some (.ok (true, .lst (xs.map fun _ => .bl true)), ⟨s, d⟩) := by
  subst h0
  have hc : ev C b26c1 ⟨[some (false, a), some (false, a), none, none, none, none], d⟩ = _ := comp_map (e1 := ⟨[some (false, a), some (false, a), none, none, none, none], d⟩) (xs := (xs.zip xs).map pairT) (fun _ => .bl true)
    (by simp [dictAt]) (by rcases ha with rfl | rfl <;> simp [seqOf, sameKind, frz1]) (by simp [Tg.slots, Tg.slotss]) (fun t ht => by
      rw [zip_self] at ht
      obtain ⟨x, hx, rfl⟩ := List.mem_map.mp ht
      refine ⟨[some (false, a), some (false, a), none, some (false, x), some (false, x), none], by simp [bindT, bindTs, wipeT], false, ?_⟩
      simp [callO, Ex.quiet, Ex.quiets, hC x hx d, hvR, T.hv]) (by have := line_big; simp; omega)
  rw [hc, zip_self, List.map_map]
  rfl
theorem e26l {C : Orc} (xs : List T) (hC : ∀ x ∈ xs, SameC C x) (hl : xs.length ≤ 100000) (d : Option Draw) : fin (sts C b26 ⟨args [.lst xs, .lst xs] 6, d⟩) = some (.ok (false, .bl true), d) := by
  have hc := in26 (C := C) xs _ (.lst xs) rfl (.inl rfl) hC hl d
  simp [args, retV, Ex.quiet, Ex.quiets, cmpT, T.isis, T.isi, T.ty, subTy, prim1, lenT, hc, bools_t]
theorem e26t {C : Orc} (xs : List T) (hC : ∀ x ∈ xs, SameC C x) (hl : xs.length ≤ 100000) (d : Option Draw) : fin (sts C b26 ⟨args [.tup xs, .tup xs] 6, d⟩) = some (.ok (false, .bl true), d) := by
  have hc := in26 (C := C) xs _ (.tup xs) rfl (.inr rfl) hC hl d
  simp [args, retV, Ex.quiet, Ex.quiets, cmpT, T.isis, T.isi, T.ty, subTy, prim1, lenT, hc, bools_t]
theorem e26d {C : Orc} (hC : SameC C (.lst [])) (d : Option Draw) : fin (sts C b26 ⟨args [.dK [], .dK []] 6, d⟩) = some (.ok (false, .bl true), d) := by
  have hc : ev C b26c2 ⟨[some (false, .dK []), some (false, .dK []), none, none, none, none], d⟩ = some (.ok (true, .lst []), ⟨[some (false, .dK []), some (false, .dK []), none, none, none, none], d⟩) := by
    simp only [b26c2, ev, itD, dictAt]
    simp [T.isD, noExc, saved, backM, back]
    rfl
  have q : (0 : Nat) ≤ sizeLine := by omega
  simp [args, retV, callO, hvR, T.hv, Ex.quiet, Ex.quiets, cmpT, T.isis, T.isi, T.ty, subTy, prim1, itemsT, hc, boolsOf, hC d, T.isD]
theorem e26a {C : Orc} (t : T) (h : match t with | .non => True | .bl _ => True | .int _ => True | .str x => PyData.strOk x = true | _ => False) (d : Option Draw) : fin (sts C b26 ⟨args [t, t] 6, d⟩) = some (.ok (false, .bl true), d) := by
  cases t with
  | non => simp [args, retV, Ex.quiet, Ex.quiets, cmpT, isT, T.isis, T.isi, T.ty, subTy]
  | bl b => simp [args, retV, Ex.quiet, Ex.quiets, cmpT, isT, T.isis, T.isi, T.ty, subTy]
  | int i => simp [args, retV, Ex.quiet, Ex.quiets, cmpT, isT, T.isis, T.isi, T.ty, subTy]
  | str x =>
    have h : PyData.strOk x = true := h
    simp [args, retV, Ex.quiet, Ex.quiets, cmpT, isT, T.isis, T.isi, T.ty, subTy, h]
  | _ => exact h.elim
theorem f26 : ∀ (n : Nat) (t : T), t.dep ≤ n → sd t = true → SameC (callN Γ (n + 2)) t
  | n, .non, _, _, d => by rw [call_fn g26 rfl]; exact e26a _ trivial d
  | n, .bl _, _, _, d => by rw [call_fn g26 rfl]; exact e26a _ trivial d
  | n, .int _, _, _, d => by rw [call_fn g26 rfl]; exact e26a _ trivial d
  | n, .str x, _, h, d => by rw [call_fn g26 rfl]; exact e26a _ h d
  | n, .dK kvs, _, h, d => by
    have : kvs = [] := by simpa [sd] using h
    subst this
    rw [call_fn g26 rfl]
    exact e26d (fun d => by rw [call_fn g26 rfl]; exact e26l [] (fun x h => by cases h) (by simp) d) d
  | 0, .lst xs, hd, _, d => by simp [T.dep] at hd
  | 0, .tup xs, hd, _, d => by simp [T.dep] at hd
  | n + 1, .lst xs, hd, h, d => by
    simp only [sd, Bool.and_eq_true, decide_eq_true_eq] at h
    simp only [T.dep] at hd
    rw [call_fn g26 rfl]
    exact e26l xs (fun x hx => f26 n x (by have := deps_mem hx; omega) (sds_mem h.1 x hx)) h.2 d
  | n + 1, .tup xs, hd, h, d => by
    simp only [sd, Bool.and_eq_true, decide_eq_true_eq] at h
    simp only [T.dep] at hd
    rw [call_fn g26 rfl]
    exact e26t xs (fun x hx => f26 n x (by have := deps_mem hx; omega) (sds_mem h.1 x hx)) h.2 d
  | n, .dT _, _, h, d => by simp [sd] at h
  | n, .ins _ _, _, h, d => by simp [sd] at h
  | n, .tok, _, h, d => by simp [sd] at h
  | n, .scr _, _, h, d => by simp [sd] at h
end Law
end PB
end
section
set_option Elab.async false
set_option linter.all false
set_option maxRecDepth 100000
/-! K14: drawn lots; what is a lot. -/
namespace PB
namespace Law
open PySem L2
def OrdC (C : Orc) : Prop := ∀ (r : Raw), r.Ok → ∀ (l : List Str) d, C 33 [r.T, tS l] d = some (.ok (true, tS (r.st.filter fun s => decide (s ∈ l))), d)
theorem strs_of : ∀ {ys : List T} {st : List Str}, (∀ y ∈ ys, y ∈ st.map T.str) → ∃ l : List Str, ys = l.map .str ∧ ∀ x ∈ l, x ∈ st
  | [], _, _ => ⟨[], rfl, fun x h => by cases h⟩
  | y :: ys, st, h => by
    obtain ⟨x, hx, rfl⟩ := List.mem_map.mp (h y List.mem_cons_self)
    obtain ⟨l, rfl, hl⟩ := strs_of (ys := ys) (st := st) fun z hz => h z (List.mem_cons_of_mem _ hz)
    exact ⟨x :: l, rfl, fun z hz => (List.mem_cons.mp hz).elim (fun e => e ▸ hx) (hl z)⟩
/-- a lot from members -/
theorem lot_of {r : Raw} {l : List Str} (h0 : l ≠ []) (hm : ∀ x ∈ l, x ∈ r.st) : LotOk r (r.st.filter fun s => decide (s ∈ l)) := by
  refine ⟨fun x hx => (List.mem_filter.mp hx).1, fun e => ?_, ?_⟩
  · cases l with
    | nil => exact h0 rfl
    | cons x l =>
      have : x ∈ r.st.filter fun s => decide (s ∈ x :: l) := List.mem_filter.mpr ⟨hm x List.mem_cons_self, by simp⟩
      rw [e] at this
      cases this
  · refine List.filter_congr fun s hs => ?_
    simp only [List.mem_filter, hs, true_and, decide_eq_true_eq]
theorem e37 {C : Orc} (hM : MixC C) (hB : BetC C) (hO : OrdC C) (r : Raw) (hr : r.Ok) (least : Nat) (hl : 1 ≤ least ∧ least ≤ 1000) (d : Draw) (m : Nat) (hd : Dok d (m + 9)) : ∃ l d', fin (sts C b37 ⟨args [.tok, r.T, .int least] 3, some d⟩) = some (.ok (true, tS l), some d') ∧ LotOk r l ∧ Dok d' m := by
  have sl := hr.sl
  have s0 : 0 < r.st.length := List.length_pos_iff.mpr hr.s0
  obtain ⟨ys, d1, e1, y1, y2, hd1⟩ := hM d (m + 1) (r.st.map .str) (by simp; omega) (hd.le (by simp; omega))
  obtain ⟨l, rfl, hlm⟩ := strs_of y2
  have hmin2 : (if r.st.length < least then (r.st.length : Int) else least) = ((min least r.st.length : Nat) : Int) := by
    by_cases h : r.st.length < least
    · rw [if_pos h]; congr 1; omega
    · rw [if_neg h]; congr 1; omega
  obtain ⟨v, d2, e2, v1, v2, hd2⟩ := hB d1 m ((min least r.st.length : Nat) : Int) r.st.length hd1 (by omega) (by omega)
  obtain ⟨k, rfl⟩ : ∃ n : Nat, v = n := ⟨v.toNat, by omega⟩
  have hl2 : l.length = r.st.length := by simpa using y1
  refine ⟨_, d2, ?_, lot_of (l := l.take k) (fun e => ?_) (fun x hx => hlm x (List.mem_of_mem_take hx)), hd2⟩
  · have c1 : cutL (l.map T.str) none (some (k : Int)) = (l.take k).map T.str := by rw [cut_to, List.map_take]
    have ho := hO r hr (l.take k) (some d2)
    simp [args, retV, callO, hvR, T.hv, T.hvIn, Ex.quiet, Ex.quiets, exQ, prim1, prim2, lenT, ixT, atI, ixN, slT, toInt, e1, hmin2, e2, c1, -List.map_take, ho]
  · have := congrArg List.length e
    rw [List.length_take] at this
    have : min k l.length = 0 := this
    omega
theorem f37 (n : Nat) (r : Raw) (hr : r.Ok) (least : Nat) (hl : 1 ≤ least ∧ least ≤ 1000) (d : Draw) (m : Nat) (hd : Dok d (m + 9)) : ∃ l d', callN Γ (n + 3) 37 [.tok, r.T, .int least] (some d) = some (.ok (true, tS l), some d') ∧ LotOk r l ∧ Dok d' m := by
  rw [call_fn g37 rfl]
  exact e37 (mixC25 n) (fun d m lo hi h1 h2 h3 => f23 n d m lo hi h1 h2 h3) (fun r hr l d => f33 (n + 1) r hr l d) r hr least hl d m hd
end Law
end PB
end
section
set_option Elab.async false
set_option linter.all false
set_option maxRecDepth 100000
/-! K15: what is no lot. -/
namespace PB
namespace Law
open PySem L2
theorem g43 : Γ[43]? = some (.fn 1 3 b43, false) := rfl
/-- what is no lot -/
inductive OddT (r : Raw) : T → Prop
  | a {t : T} (h : noSeq t = true) : OddT r t
  | e : OddT r (.lst [])
  | n {ts : List T} (h : ∀ x ∈ ts, typd x = true) (h2 : ∃ x ∈ ts, noStr x = true) (hl : ts.length ≤ 1000) : OddT r (.lst ts)
  | s {l : List Str} (h0 : l ≠ []) (h : ∀ x ∈ l, sOk x) (hl : l.length ≤ 1000) (hf : r.st.filter (fun s => decide (s ∈ l)) ≠ l) : OddT r (tS l)
theorem odd11 {r : Raw} (hr : r.Ok) {t : T} (h : OddT r t) (n : Nat) (d : Option Draw) : callN Γ (n + 5) 11 [boxT r, t] d = some (.ok (false, .bl false), d) := by
  cases h with
  | a h => exact f11_0 n r t h d
  | e => exact f11_e n r d
  | @n ts h h2 hl =>
    obtain ⟨x, hx, h2⟩ := h2
    refine f11_b n r _ ts (.inl rfl) h hl ⟨x, hx, ?_⟩ d
    cases x <;> first | rfl | (simp [noStr] at h2; done)
  | @s l h0 h hl hf =>
    by_cases hm : ∀ x ∈ l, x ∈ r.st
    · have := f11_s n r hr true l hm h0 hl d
      rw [decide_eq_false hf] at this
      exact this
    · simp only [Classical.not_forall] at hm
      obtain ⟨x, hx, hm⟩ := hm
      exact f11_b n r _ (l.map .str) (.inl rfl) (fun y hy => by obtain ⟨s, _, rfl⟩ := List.mem_map.mp hy; rfl) (by simpa using hl) ⟨.str x, List.mem_map_of_mem hx, by simp [okItem, hm]⟩ d
def isS : T → Bool
  | .str _ => true
  | _ => false
theorem c41 {C : Orc} (r : Raw) (ts : List T) (h : ∀ x ∈ ts, typd x = true) (hl : ts.length ≤ 1000) (d : Option Draw) : ev C b41c1 ⟨[some (false, r.T), some (false, .lst ts), none, none, none], d⟩ = some (.ok (true, .lst (ts.map fun x => .bl (isS x))), ⟨[some (false, r.T), some (false, .lst ts), none, none, none], d⟩) :=
  comp_map (e1 := ⟨[some (false, r.T), some (false, .lst ts), none, none, none], d⟩) (xs := ts) (fun x => .bl (isS x))
    (by simp [dictAt, T.isD]) (by simp [seqS, seqOf, frz1]) (by simp [Tg.slots]) (fun x hx => by
      refine ⟨[some (false, r.T), some (false, .lst ts), none, some (false, x), none], by simp [bindT, wipeT], false, ?_⟩
      have hy := h x hx
      cases x <;> first | (simp [typd, noStr] at hy; done) | simp [isS, Ex.quiet, T.isis, T.isi, T.ty, subTy]) (by have := line_big; omega)
theorem all_false {bs : List Bool} (h : ∃ b ∈ bs, b = false) : bs.all id = false := by
  obtain ⟨b, hb, rfl⟩ := h
  rw [List.all_eq_false]
  exact ⟨false, hb, by simp⟩
theorem e41 {C : Orc} {r : Raw} (hr : r.Ok) {t : T} (h : OddT r t) (d : Option Draw) : fin (sts C b41 ⟨args [r.T, t] 5, d⟩) = some (.ok (false, .bl false), d) := by
  cases h with
  | a h => cases t <;> first | (simp [noSeq] at h; done) | simp [args, retV, Ex.quiet, Ex.quiets, T.isis, T.isi, T.ty, subTy]
  | e => simp [args, retV, Ex.quiet, Ex.quiets, T.isis, T.isi, T.ty, subTy, prim1, lenT, cmpT]
  | @n ts h h2 hl =>
    have hc := c41 (C := C) r ts h hl d
    have hb : boolsOf (ts.map fun x => T.bl (isS x)) = some (ts.map isS) := boolsOf_map isS ts
    have ha : (ts.map isS).all id = false := all_false (by
      obtain ⟨x, hx, h2⟩ := h2
      refine ⟨isS x, List.mem_map_of_mem hx, ?_⟩
      cases x <;> first | rfl | (simp [noStr] at h2; done))
    generalize ts.map isS = bs at hb ha
    by_cases h0 : ts = []
    · subst h0; simp [args, retV, Ex.quiet, Ex.quiets, T.isis, T.isi, T.ty, subTy, prim1, lenT, cmpT]
    · simp [args, retV, Ex.quiet, Ex.quiets, T.isis, T.isi, T.ty, subTy, prim1, lenT, cmpT, hc, hb, ha, h0]
  | @s l h0 h hl hf =>
    have hc := c41 (C := C) r (l.map .str) (fun y hy => by obtain ⟨s, _, rfl⟩ := List.mem_map.mp hy; rfl) (by simpa using hl) d
    have hb : boolsOf ((l.map T.str).map fun x => T.bl (isS x)) = some ((l.map T.str).map isS) := boolsOf_map isS _
    have ha : ((l.map T.str).map isS).all id = true := by
      rw [List.all_eq_true]
      intro x hx
      obtain ⟨y, hy, rfl⟩ := List.mem_map.mp hx
      obtain ⟨s, hs, rfl⟩ := List.mem_map.mp hy
      rfl
    generalize (l.map T.str).map isS = bs at hb ha
    have hc2 : ev C b41c2 ⟨[some (false, r.T), some (false, tS l), none, none, none], d⟩ = _ := comp_pure (e1 := ⟨[some (false, r.T), some (false, tS l), none, none, none], d⟩) (xs := r.st.map .str) (fun x => match x with | .str s => decide (s ∈ l) | _ => false) (fun x => x)
      (by simp [dictAt, T.isD]) (by simp [seqS, seqOf, frz1, Ex.quiet, ixT, atI, ixN]) (by simp [Tg.slots]) (fun x hx => by
        obtain ⟨s, _, rfl⟩ := List.mem_map.mp hx
        refine ⟨[some (false, r.T), some (false, tS l), none, none, some (false, .str s)], by simp [bindT, wipeT], ?_, fun _ => ⟨false, by simp [frz1]⟩⟩
        by_cases hs : s ∈ l <;> simp [Ex.quiet, cmpT, hs]) (by have := line_big; have := hr.sl; simp; omega)
    have e2 : ((r.st.map T.str).filter fun x => match x with | .str s => decide (s ∈ l) | _ => false) = (r.st.filter fun s => decide (s ∈ l)).map T.str := by
      rw [List.filter_map]
      rfl
    rw [e2, List.map_id'] at hc2
    have he := eqT_strs (a := r.st.filter fun s => decide (s ∈ l)) (b := l) (fun x hx => (hr.sw x (List.mem_filter.mp hx).1).ok) h
    rw [decide_eq_false hf] at he
    simp only [List.map_map] at hc hb
    generalize hF : (r.st.filter fun s => decide (s ∈ l)).map T.str = F at he hc2
    simp [args, retV, Ex.quiet, Ex.quiets, T.isis, T.isi, T.ty, subTy, prim1, lenT, cmpT, hc, hb, ha, h0, hc2, itemsT, he]
theorem odd41 {r : Raw} (hr : r.Ok) {t : T} (h : OddT r t) (n : Nat) (d : Option Draw) : callN Γ (n + 1) 41 [r.T, t] d = some (.ok (false, .bl false), d) := by
  rw [call_fn g41 rfl]
  exact e41 hr h d
end Law
end PB
end
section
set_option Elab.async false
set_option linter.all false
set_option maxRecDepth 100000
/-! K16: odd lots. -/
namespace PB
namespace Law
open PySem L2
structure GoodOdd (r : Raw) (t : T) : Prop where
  o : OddT r t
  c : cp t = true
  s : sd t = true
  d : t.dep ≤ 2
theorem no_ok : sOk (S "No") := by unfold sOk; decide +kernel
theorem lot_ok : sOk (S "lot") := by unfold sOk; decide +kernel
theorem stranger_wrd : Wrd (S "stranger") := ⟨by decide +kernel, by decide +kernel, by decide +kernel⟩
theorem no_wrd : ¬ Wrd (S "No") := fun h => by
  have := h.al 78 (by decide +kernel)
  omega
theorem sds_strs {l : List Str} (h : ∀ x ∈ l, sOk x) : sds (l.map T.str) = true := by
  induction l with
  | nil => rfl
  | cons a l ih =>
    have h1 : PyData.strOk a = true := h a List.mem_cons_self
    simp only [List.map_cons, sds, sd, h1, ih fun x hx => h x (List.mem_cons_of_mem _ hx), Bool.and_self]
theorem good_a {r : Raw} {t : T} (h : match t with | .non => True | .bl _ => True | .int _ => True | .str x => PyData.strOk x = true | .dK kvs => kvs = [] | _ => False) : GoodOdd r t := by
  cases t <;> first | exact h.elim | (refine ⟨.a rfl, rfl, rfl, ?_⟩; simp [T.dep]; done) | (refine ⟨.a rfl, rfl, h, ?_⟩; simp [T.dep]; done) | (subst h; refine ⟨.a rfl, rfl, rfl, ?_⟩; simp [T.dep]; done)
theorem good_s {r : Raw} {l : List Str} (h0 : l ≠ []) (h : ∀ x ∈ l, sOk x) (hl : l.length ≤ 1000) (hf : r.st.filter (fun s => decide (s ∈ l)) ≠ l) : GoodOdd r (tS l) := by
  refine ⟨.s h0 h hl hf, ?_, ?_, ?_⟩
  · simp only [cp, cps_strs, List.length_map, Bool.true_and, decide_eq_true_eq]; omega
  · simp only [sd, sds_strs h, List.length_map, Bool.true_and, decide_eq_true_eq]; omega
  · simp only [T.dep, deps_strs]; omega
theorem not_sub {st l : List Str} (h : ¬ l.Sublist st) : st.filter (fun s => decide (s ∈ l)) ≠ l := fun e => h (e ▸ List.filter_sublist)
/-- the list of them -/
def oddL (st : List Str) (s0 free : Str) (more : List T) : List T := [.non, .int 5, .bl true, .str (S "lot"), .lst [], .dK [], .lst [.non], tS [s0, s0], tS [s0, free], tS (st ++ [S "No"]), .lst [tS [s0]]] ++ more
theorem odd_good {r : Raw} (hr : r.Ok) {s0 free : Str} {rest : List Str} (h0 : r.st = s0 :: rest) (hw : Wrd free) (hf : free ∉ r.st) {more : List T} (hm : ∀ t ∈ more, GoodOdd r t) : ∀ t ∈ oddL r.st s0 free more, GoodOdd r t := by
  have m0 : s0 ∈ r.st := by rw [h0]; exact List.mem_cons_self
  have k0 : sOk s0 := (hr.sw s0 m0).ok
  have sl := hr.sl
  intro t ht
  unfold oddL at ht
  rcases List.mem_append.mp ht with ht | ht
  · simp only [List.mem_cons, List.not_mem_nil, or_false] at ht
    rcases ht with rfl | rfl | rfl | rfl | rfl | rfl | rfl | rfl | rfl | rfl | rfl
    · exact good_a trivial
    · exact good_a trivial
    · exact good_a trivial
    · exact good_a lot_ok
    · exact ⟨.e, rfl, rfl, by simp [T.dep, T.deps]⟩
    · exact good_a rfl
    · exact ⟨.n (fun x hx => by rw [List.mem_singleton.mp hx]; rfl) ⟨.non, by simp, rfl⟩ (by simp), rfl, rfl, by simp [T.dep, T.deps]⟩
    · refine good_s (by simp) (fun x hx => ?_) (by simp) (not_sub fun h => ?_)
      · have e : x = s0 := by simpa using hx
        rw [e]; exact k0
      · have := hr.sn.sublist h
        simp at this
    · refine good_s (by simp) (fun x hx => ?_) (by simp) (not_sub fun h => hf (h.subset (by simp)))
      rcases (by simpa using hx : x = s0 ∨ x = free) with e | e
      · rw [e]; exact k0
      · rw [e]; exact hw.ok
    · refine good_s (by simp) (fun x hx => ?_) (by simp; omega) (not_sub fun h => no_wrd (hr.sw _ (h.subset (by simp))))
      rcases List.mem_append.mp hx with e | e
      · exact (hr.sw x e).ok
      · rw [List.mem_singleton.mp e]; exact no_ok
    · refine ⟨.n (fun x hx => by rw [List.mem_singleton.mp hx]; rfl) ⟨tS [s0], by simp, rfl⟩ (by simp), rfl, ?_, by simp [T.dep, T.deps]⟩
      have k0 : PyData.strOk s0 = true := k0
      simp [sd, sds, k0]
  · exact hm t ht
theorem odd_1 {r : Raw} (hr : r.Ok) {s0 : Str} {rest : List Str} (h0 : r.st = s0 :: rest) : ∀ t ∈ [T.str s0], GoodOdd r t := fun t ht => by
  rw [List.mem_singleton.mp ht]
  exact good_a (hr.sw s0 (by rw [h0]; exact List.mem_cons_self)).ok
theorem odd_2 {r : Raw} (hr : r.Ok) {s0 s1 : Str} {rest : List Str} (h0 : r.st = s0 :: s1 :: rest) : ∀ t ∈ [.lst ((r.st.map T.str).reverse), tS [s1, s0], .str s0], GoodOdd r t := fun t ht => by
  have m0 : s0 ∈ r.st := by rw [h0]; simp
  have m1 : s1 ∈ r.st := by rw [h0]; simp
  have hn := hr.sn
  have h01 : s0 ≠ s1 := by
    rw [h0] at hn
    intro e
    subst e
    simp at hn
  have sl := hr.sl
  simp only [List.mem_cons, List.not_mem_nil, or_false] at ht
  rcases ht with rfl | rfl | rfl
  · rw [← List.map_reverse]
    refine good_s (by rw [h0]; simp) (fun x hx => (hr.sw x (List.mem_reverse.mp hx)).ok) (by simp; omega) (fun e => ?_)
    have e1 : r.st.filter (fun s => decide (s ∈ r.st.reverse)) = r.st := by
      rw [List.filter_eq_self]
      intro x hx
      simpa using hx
    rw [e1] at e
    have hp : r.st.Pairwise (fun a b => ¬ (a = s1 ∧ b = s0)) := by
      rw [h0] at hn ⊢
      refine List.pairwise_iff_getElem.mpr fun i j hi hj hij ⟨ha, hb⟩ => ?_
      have := List.pairwise_iff_getElem.mp hn 0 j (by simp) hj (by omega)
      simp only [List.getElem_cons_zero] at this
      exact this hb.symm
    rw [e, List.pairwise_reverse, h0] at hp
    simp at hp
  · refine good_s (by simp) (fun x hx => ?_) (by simp) (fun e => ?_)
    · rcases (by simpa using hx : x = s1 ∨ x = s0) with e | e
      · rw [e]; exact (hr.sw _ m1).ok
      · rw [e]; exact (hr.sw _ m0).ok
    · rw [h0] at e
      simp at e
      exact h01 e.1
  · exact good_a (hr.sw s0 m0).ok
theorem e43 {C : Orc} (hF : FreeC C) (r : Raw) (hr : r.Ok) (d : Option Draw) : ∃ os, fin (sts C b43 ⟨args [r.T] 3, d⟩) = some (.ok (true, .lst os), d) ∧ os.length ≤ 100 ∧ ∀ t ∈ os, GoodOdd r t := by
  have big := line_big
  have sl := hr.sl
  obtain ⟨free, e1, hw, hf⟩ := hF r.st (S "stranger") d stranger_wrd (by omega)
  obtain ⟨s0, rest, h0⟩ : ∃ s0 rest, r.st = s0 :: rest := by
    cases h : r.st with
    | nil => exact absurd h hr.s0
    | cons s0 rest => exact ⟨s0, rest, rfl⟩
  have a0 : ixT (.lst (r.st.map T.str)) (.int 0) = some (.str s0) := atI_nat' (i := 0) (by rw [h0]; rfl)
  have ar : ixT (.lst [.lst (r.st.map .str), .lst (r.bu.map .str), .lst (r.ro.map rowT)]) (.int 0) = some (.lst (r.st.map .str)) := rfl
  have q11 : 11 ≤ sizeLine := by omega
  have q1 : 1 ≤ sizeLine := by omega
  have q2 : 2 ≤ sizeLine := by omega
  have q3 : 3 ≤ sizeLine := by omega
  have q12 : 12 ≤ sizeLine := by omega
  have q14 : 14 ≤ sizeLine := by omega
  have q0 : 0 ≤ sizeLine := by omega
  have qs : r.st.length + 1 ≤ sizeLine := by omega
  cases rest with
  | nil =>
    have hl : r.st.length = 1 := by rw [h0]; rfl
    refine ⟨oddL r.st s0 free [.str s0], ?_, by simp [oddL], odd_good hr h0 hw hf (odd_1 hr h0)⟩
    simp [args, retV, callO, hvR, T.hv, Ex.quiet, Ex.quiets, asgR, ar, a0, e1, binT, prim1, lenT, cmpT, hl, oddL, q0, q1, q2, q3, q11, q12, qs]
  | cons s1 rest =>
    have a1 : ixT (.lst (r.st.map T.str)) (.int 1) = some (.str s1) := atI_nat' (i := 1) (by rw [h0]; rfl)
    have hl : (1 : Int) < r.st.length := by rw [h0]; simp; omega
    refine ⟨oddL r.st s0 free [.lst ((r.st.map T.str).reverse), tS [s1, s0], .str s0], ?_, by simp [oddL], odd_good hr h0 hw hf (odd_2 hr h0)⟩
    simp [args, retV, callO, hvR, T.hv, Ex.quiet, Ex.quiets, asgR, ar, a0, a1, e1, binT, prim1, lenT, cmpT, hl, oddL, q0, q1, q2, q3, q11, q14, qs]
theorem f43 (n : Nat) (r : Raw) (hr : r.Ok) (d : Option Draw) : ∃ os, callN Γ (n + 2) 43 [r.T] d = some (.ok (true, .lst os), d) ∧ os.length ≤ 100 ∧ ∀ t ∈ os, GoodOdd r t := by
  rw [call_fn g43 rfl]
  exact e43 (fun l w d h1 h2 => f29 n l w h1 h2 d) r hr d
end Law
end PB
end
section
set_option Elab.async false
set_option linter.all false
set_option maxRecDepth 100000
/-! K17: refusals. -/
namespace PB
namespace Law
open PySem L2
theorem g44 : Γ[44]? = some (.fn 4 9 b44, false) := rfl
theorem g45 : Γ[45]? = some (.fn 3 5 b45, true) := rfl
theorem g46 : Γ[46]? = some (.fn 1 6 b46, false) := rfl
def tells : List (Str × List Str × Str) := [((S "BadBox"), [(S "box")], (S "box")), ((S "BadState"), [(S "state")], (S "state")), ((S "BadButton"), [(S "button")], (S "button")), ((S "BadPresses"), [(S "presses")], (S "presses")), ((S "BadLog"), [(S "log")], (S "log")), ((S "BadLot"), [(S "lot")], (S "lot")), ((S "BadTree"), [(S "tree")], (S "tree")), ((S "BadTrap"), [(S "trap")], (S "trap")), ((S "BadLots"), [(S "lots")], (S "index")), ((S "BadSplits"), [(S "splits")], (S "splits")), ((S "BadAnswer"), [(S "answer")], (S "answer")), ((S "BadTreeText"), [(S "tree text")], (S "line")), ((S "BadAnswerText"), [(S "answer text")], (S "line")), ((S "BadWholeText"), [(S "whole text")], (S "line")), ((S "BadPrices"), [(S "prices")], (S "prices")), ((S "BadBound"), [(S "bound")], (S "bound")), ((S "BadDear"), [(S "dear")], (S "dear")), ((S "BadLosses"), [(S "losses")], (S "losses")), ((S "BadLost"), [(S "lost")], (S "lost")), ((S "BadLossTree"), [(S "loss tree")], (S "tree"))]
theorem nBS : ¬ S "BadBox" = S "BadState" := by decide +kernel
theorem nBB : ¬ S "BadBox" = S "BadButton" := by decide +kernel
theorem nSB : ¬ S "BadState" = S "BadButton" := by decide +kernel
theorem nBL : ¬ S "BadBox" = S "BadLot" := by decide +kernel
theorem nSL : ¬ S "BadState" = S "BadLot" := by decide +kernel
theorem nUL : ¬ S "BadButton" = S "BadLot" := by decide +kernel
theorem nPL : ¬ S "BadPresses" = S "BadLot" := by decide +kernel
theorem nGL : ¬ S "BadLog" = S "BadLot" := by decide +kernel
theorem caught_box (t : T) : caught true tells (S "BadBox") [(S "box", t)] = some (true, .lst [.str (S "box"), t]) := by
  simp [tells, caught, lookF, toldT]
theorem caught_button (t : T) : caught true tells (S "BadButton") [(S "button", t)] = some (true, .lst [.str (S "button"), t]) := by
  simp [tells, caught, lookF, toldT, nBB, nSB]
theorem caught_lot (t : T) : caught true tells (S "BadLot") [(S "lot", t)] = some (true, .lst [.str (S "lot"), t]) := by
  simp [tells, caught, lookF, toldT, nBL, nSL, nUL, nPL, nGL]
/-- refused: the words of the error -/
theorem told_exc {C : Orc} {hs : List (Str × List Str × Str)} {body : Ex} {e e' : Ev} {c : Str} {fs : List (Str × T)} {q : R} (h : ev C body e = some (.exc c fs, e')) (hq : caught true hs c fs = some q) : ev C (.told true body hs) e = some (.ok q, e') := by
  simp only [ev, h, hq]
/-- what is no box -/
def noBox : T → Bool
  | .non => true | .bl _ => true | .int _ => true | .str _ => true | .lst _ => true | .tup _ => true | .dK _ => true
  | _ => false
theorem f9x (n : Nat) (t : T) (h : noBox t = true) (d : Option Draw) : callN Γ (n + 1) 9 [t] d = some (.exc (S "BadBox") [(S "box", t)], d) := by
  rw [call_fn g9 rfl]
  cases t <;> first | (simp [noBox] at h; done) | simp [args, Ex.quiet, Ex.quiets, T.isis, T.isi, T.ty, subTy, frz1]
def ExcC (C : Orc) (f : Nat) (ts : List T) (X : Str) (fs : List (Str × T)) : Prop := ∀ d, C f ts d = some (.exc X fs, d)
theorem e12b {C : Orc} {a b : T} {X : Str} {fs : List (Str × T)} (h : ExcC C 9 [a] X fs) (d : Option Draw) : fin (sts C b12 ⟨args [a, b] 2, d⟩) = some (.exc X fs, d) := by
  simp [args, Ex.quiet, Ex.quiets, callO, h d, frzV, frz1]
theorem e13b {C : Orc} {a b : T} {X : Str} {fs : List (Str × T)} (h : ExcC C 9 [a] X fs) (d : Option Draw) : fin (sts C b13 ⟨args [a, b] 2, d⟩) = some (.exc X fs, d) := by
  simp [args, Ex.quiet, Ex.quiets, callO, h d, frzV, frz1]
theorem e14b {C : Orc} {a b c : T} {X : Str} {fs : List (Str × T)} (h : ExcC C 13 [a, b] X fs) (d : Option Draw) : fin (sts C b14 ⟨args [a, b, c] 3, d⟩) = some (.exc X fs, d) := by
  simp [args, Ex.quiet, Ex.quiets, callO, h d, frzV, frz1]
theorem e14u {C : Orc} {a b c : T} {X : Str} {fs : List (Str × T)} (h : ∀ d, C 13 [a, b] d = some (.ok (false, .non), d)) (h2 : ExcC C 10 [a, c] X fs) (d : Option Draw) : fin (sts C b14 ⟨args [a, b, c] 3, d⟩) = some (.exc X fs, d) := by
  simp [args, Ex.quiet, Ex.quiets, callO, h d, h2 d, hvR, T.hv, frzV, frz1]
theorem e16b {C : Orc} {a b c : T} {X : Str} {fs : List (Str × T)} (h : ExcC C 14 [a, b, c] X fs) (d : Option Draw) : fin (sts C b16 ⟨args [a, b, c] 3, d⟩) = some (.exc X fs, d) ∧ fin (sts C b18 ⟨args [a, b, c] 3, d⟩) = some (.exc X fs, d) ∧ fin (sts C b20 ⟨args [a, b, c] 3, d⟩) = some (.exc X fs, d) := by
  refine ⟨?_, ?_, ?_⟩ <;> simp [args, Ex.quiet, Ex.quiets, callO, h d, frzV, frz1]
theorem x14 {n : Nat} {a b c : T} {X : Str} {fs : List (Str × T)} (h : ExcC (callN Γ n) 14 [a, b, c] X fs) : ExcC (callN Γ (n + 1)) 16 [a, b, c] X fs ∧ ExcC (callN Γ (n + 1)) 18 [a, b, c] X fs ∧ ExcC (callN Γ (n + 1)) 20 [a, b, c] X fs := by
  refine ⟨fun d => ?_, fun d => ?_, fun d => ?_⟩
  · rw [call_fn g16 rfl]; exact (e16b h d).1
  · rw [call_fn g18 rfl]; exact (e16b h d).2.1
  · rw [call_fn g20 rfl]; exact (e16b h d).2.2
theorem x13 {n : Nat} {a b c : T} {X : Str} {fs : List (Str × T)} (h : ExcC (callN Γ n) 13 [a, b] X fs) : ExcC (callN Γ (n + 1)) 14 [a, b, c] X fs := fun d => by
  rw [call_fn g14 rfl]; exact e14b h d
/-- the three, no lot -/
theorem bad_lot {r : Raw} (hr : r.Ok) {t : T} (h : OddT r t) (n : Nat) (c : T) : ExcC (callN Γ (n + 8)) 16 [boxT r, t, c] (S "BadLot") [(S "lot", t)] ∧ ExcC (callN Γ (n + 8)) 18 [boxT r, t, c] (S "BadLot") [(S "lot", t)] ∧ ExcC (callN Γ (n + 8)) 20 [boxT r, t, c] (S "BadLot") [(S "lot", t)] :=
  x14 (n := n + 7) (x13 (n := n + 6) fun d => f13x n r t (odd11 hr h n) d)
/-- .. no button -/
theorem bad_button {r : Raw} (hr : r.Ok) {k : Bool} {l : List Str} (hl : LotOk r l) {t : T} (h : noStr t = true ∨ ∃ x, t = .str x ∧ x ∉ r.bu) (n : Nat) : ExcC (callN Γ (n + 8)) 16 [boxT r, lotT k l, t] (S "BadButton") [(S "button", t)] ∧ ExcC (callN Γ (n + 8)) 18 [boxT r, lotT k l, t] (S "BadButton") [(S "button", t)] ∧ ExcC (callN Γ (n + 8)) 20 [boxT r, lotT k l, t] (S "BadButton") [(S "button", t)] :=
  x14 (n := n + 7) fun d => by
    rw [call_fn g14 rfl]
    exact e14u (fun d => f13 n r hr k l hl d) (fun d => f10x (n + 3) r t h d) d
/-- .. no box -/
theorem bad_box {t : T} (h : noBox t = true) (n : Nat) (b c : T) : ExcC (callN Γ (n + 4)) 16 [t, b, c] (S "BadBox") [(S "box", t)] ∧ ExcC (callN Γ (n + 4)) 18 [t, b, c] (S "BadBox") [(S "box", t)] ∧ ExcC (callN Γ (n + 4)) 20 [t, b, c] (S "BadBox") [(S "box", t)] :=
  x14 (n := n + 3) (x13 (n := n + 2) fun d => by rw [call_fn g13 rfl]; exact e13b (fun d => f9x n t h d) d)
theorem bad_box12 {t : T} (h : noBox t = true) (n : Nat) (b : T) : ExcC (callN Γ (n + 2)) 12 [t, b] (S "BadBox") [(S "box", t)] := fun d => by
  rw [call_fn g12 rfl]; exact e12b (fun d => f9x n t h d) d
end Law
end PB
end
section
set_option Elab.async false
set_option linter.all false
set_option maxRecDepth 100000
/-! K18: a lot's answers. -/
namespace PB
namespace Law
open PySem L2
theorem mate_mem {r : Raw} {s b t : Str} {l : List Str} (h : mate r s b l = some t) : t ∈ l := by
  unfold mate at h
  cases hq : look r s b with
  | none => rw [hq] at h; cases h
  | some p => rw [hq] at h; exact List.mem_of_find?_eq_some h
theorem blur_mem {r : Raw} {b : Str} : ∀ {l : List Str} {p : Str × Str}, blur r b l = some p → p.1 ∈ l ∧ p.2 ∈ l
  | [], _, h => by cases h
  | s :: l, p, h => by
    unfold blur at h
    cases hq : mate r s b l with
    | none =>
      rw [hq] at h
      obtain ⟨h1, h2⟩ := blur_mem (l := l) h
      exact ⟨List.mem_cons_of_mem _ h1, List.mem_cons_of_mem _ h2⟩
    | some t =>
      rw [hq] at h
      cases h
      exact ⟨List.mem_cons_self, List.mem_cons_of_mem _ (mate_mem hq)⟩
theorem sd_oPT {r : Raw} {b : Str} {l : List Str} (h : ∀ x ∈ l, sOk x) : sd (oPT (blur r b l)) = true ∧ (oPT (blur r b l)).dep ≤ 1 := by
  cases hq : blur r b l with
  | none => exact ⟨rfl, by simp [oPT, T.dep]⟩
  | some p =>
    obtain ⟨h1, h2⟩ := blur_mem hq
    have h1 : PyData.strOk p.1 = true := h _ h1
    have h2 : PyData.strOk p.2 = true := h _ h2
    exact ⟨by simp [oPT, sd, sds, h1, h2], by simp [oPT, T.dep, T.deps]⟩
theorem sd_lot {k : Bool} {l : List Str} (h : ∀ x ∈ l, sOk x) (hl : l.length ≤ 1000) : sd (lotT k l) = true ∧ (lotT k l).dep ≤ 1 ∧ cp (lotT k l) = true := by
  cases k with
  | true =>
    refine ⟨?_, ?_, ?_⟩
    · simp only [lotT, if_true, sd, sds_strs h, List.length_map, Bool.true_and, decide_eq_true_eq]; omega
    · simp [lotT, T.dep, deps_strs]
    · simp only [lotT, if_true, cp, cps_strs, List.length_map, Bool.true_and, decide_eq_true_eq]; omega
  | false =>
    refine ⟨?_, ?_, ?_⟩
    · simp only [lotT, Bool.false_eq_true, if_false, sd, sds_strs h, List.length_map, Bool.true_and, decide_eq_true_eq]; omega
    · simp [lotT, T.dep, deps_strs]
    · simp only [lotT, Bool.false_eq_true, if_false, cp, cps_strs, List.length_map, Bool.true_and, decide_eq_true_eq]; omega
abbrev s44 (r : Raw) (l : List Str) (x4 x5 x6 x7 x8 : Option R) : List (Option R) := [some (false, .tok), some (false, r.T), some (false, boxT r), some (false, tS l), x4, x5, x6, x7, x8]
def aT (r : Raw) (l : List Str) (b : Str) : T := .lst [.bl (lack r l b).isNone, oPT (blur r b l), .bl ((lack r l b).isNone && (blur r b l).isNone)]
def LooseC (C : Orc) (l : List Str) : Prop := ∀ (d : Draw) (m : Nat), Dok d (m + 1) → ∃ k d', C 28 [.tok, tS l] (some d) = some (.ok (false, lotT k l), some d') ∧ Dok d' m
theorem in44 {C : Orc} {r : Raw} {l : List Str} (h28 : LooseC C l) (h27 : ∀ k d, C 27 [lotT k l] d = some (.ok (cpB (lotT k l), lotT k l), d)) (b : Str)
    (h38 : ∀ d, C 38 [r.T, tS l, .str b] d = some (.ok (false, osT (lack r l b)), d)) (h39 : ∀ d, C 39 [r.T, tS l, .str b, .bl false] d = some (.ok (false, oPT (blur r b l)), d)) (h40 : ∀ d, C 40 [r.T, tS l, .str b, .bl false] d = some (.ok (false, .bl ((lack r l b).isNone && (blur r b l).isNone)), d))
    (h16 : ∀ k d, C 16 [boxT r, lotT k l, .str b] d = some (.ok (false, .bl (lack r l b).isNone), d)) (h18 : ∀ k d, C 18 [boxT r, lotT k l, .str b] d = some (.ok (false, oPT (blur r b l)), d)) (h20 : ∀ k d, C 20 [boxT r, lotT k l, .str b] d = some (.ok (false, .bl ((lack r l b).isNone && (blur r b l).isNone)), d))
    (hs1 : SameC C (aT r l b)) (hs2 : ∀ k, SameC C (lotT k l)) (x5 x6 x7 x8 : Option R) (d : Draw) (m : Nat) (hd : Dok d (m + 1)) :
    ∃ x5' x6' x7' x8' d', sts C b44b1 ⟨s44 r l (some (false, .str b)) x5 x6 x7 x8, some d⟩ = some (.next, ⟨s44 r l (some (false, .str b)) x5' x6' x7' x8', some d'⟩) ∧ Dok d' m := by
  obtain ⟨k, d', e, hd'⟩ := h28 d m hd
  have q3 : 3 ≤ sizeLine := by have := line_big; omega
  have hc : hvR (cpB (lotT k l), lotT k l) = false := by cases k <;> simp [lotT, cpB, hvR, T.hv, T.hvIn]
  have hs1 := hs1 (some d')
  have hs2 := hs2 k (some d')
  have h16 := h16 k
  have h18 := h18 k
  have h20 := h20 k
  have h27 := h27 k
  unfold aT at hs1
  refine ⟨some (false, lotT k l), some (cpB (lotT k l), lotT k l), some (true, aT r l b), some (true, aT r l b), d', ?_, hd'⟩
  generalize lotT k l = lt at *
  simp only [s44]
  have e : C 28 [.tok, tS l] (some d) = _ := e
  by_cases hv : lt.hv = true
  · simp [asgR, callO, hvR, T.hv, Ex.quiet, Ex.quiets, hv, e, h27, hc, frzV, frz1, h38, h39, h40, h16, h18, h20, cmpT, osT_non, aT, hs1, hs2, q3]
  · simp [asgR, callO, hvR, T.hv, Ex.quiet, Ex.quiets, hv, e, h27, hc, frzV, frz1, h38, h39, h40, h16, h18, h20, cmpT, osT_non, aT, hs1, hs2, q3]
theorem e44 {C : Orc} {r : Raw} {l : List Str} (hbu : r.bu.length ≤ 8) (h28 : LooseC C l) (h27 : ∀ k d, C 27 [lotT k l] d = some (.ok (cpB (lotT k l), lotT k l), d))
    (h38 : ∀ b ∈ r.bu, ∀ d, C 38 [r.T, tS l, .str b] d = some (.ok (false, osT (lack r l b)), d)) (h39 : ∀ b ∈ r.bu, ∀ d, C 39 [r.T, tS l, .str b, .bl false] d = some (.ok (false, oPT (blur r b l)), d)) (h40 : ∀ b ∈ r.bu, ∀ d, C 40 [r.T, tS l, .str b, .bl false] d = some (.ok (false, .bl ((lack r l b).isNone && (blur r b l).isNone)), d))
    (h16 : ∀ b ∈ r.bu, ∀ k d, C 16 [boxT r, lotT k l, .str b] d = some (.ok (false, .bl (lack r l b).isNone), d)) (h18 : ∀ b ∈ r.bu, ∀ k d, C 18 [boxT r, lotT k l, .str b] d = some (.ok (false, oPT (blur r b l)), d)) (h20 : ∀ b ∈ r.bu, ∀ k d, C 20 [boxT r, lotT k l, .str b] d = some (.ok (false, .bl ((lack r l b).isNone && (blur r b l).isNone)), d))
    (hs1 : ∀ b ∈ r.bu, SameC C (aT r l b)) (hs2 : ∀ k, SameC C (lotT k l)) (h12 : ∀ k d, C 12 [boxT r, lotT k l] d = some (.ok (false, .bl true), d)) (d : Draw) (m : Nat) (hd : Dok d (m + 9)) :
    ∃ d', fin (sts C b44 ⟨args [.tok, r.T, boxT r, tS l] 9, some d⟩) = some (.ok (false, .bl true), some d') ∧ Dok d' m := by
  obtain ⟨e', g1, x4, x5, x6, x7, x8, d1, he, g2⟩ := st_for_all (C := C) (g := .nm 4) (it := .seq (.ix (.var 1) (.con (.int 1)))) (b := b44b1) (e := ⟨s44 r l none none none none none, some d⟩) (e1 := ⟨s44 r l none none none none none, some d⟩) (xs := r.bu.map .str)
    (fun i e => ∃ x4 x5 x6 x7 x8 d', e = ⟨s44 r l x4 x5 x6 x7 x8, some d'⟩ ∧ Dok d' (m + 1 + (8 - i)))
    (by simp [dictAt]) (by simp [s44, seqS, seqOf, frz1, Ex.quiet, ixT, atI, ixN]) ⟨none, none, none, none, none, d, rfl, hd.le (by omega)⟩ (fun i t e ht ⟨x4, x5, x6, x7, x8, d1, he, k1⟩ => by
      subst he
      obtain ⟨b, hi, rfl⟩ := map_get ht
      have hb := List.mem_of_getElem? hi
      have hi8 : i < 8 := by
        have := (List.getElem?_eq_some_iff.mp hi).1
        omega
      obtain ⟨x5', x6', x7', x8', d2, q1, q2⟩ := in44 h28 h27 b (h38 b hb) (h39 b hb) (h40 b hb) (h16 b hb) (h18 b hb) (h20 b hb) (hs1 b hb) hs2 x5 x6 x7 x8 d1 (m + 1 + (8 - (i + 1))) (k1.le (by omega))
      exact ⟨s44 r l (some (false, .str b)) x5 x6 x7 x8, _, by simp [bindT, s44], q1, _, _, _, _, _, d2, rfl, q2⟩)
  subst he
  obtain ⟨k, d2, e2, hd2⟩ := h28 d1 m (g2.le (by omega))
  refine ⟨d2, ?_, hd2⟩
  have g1 : st C b44f1 ⟨s44 r l none none none none none, some d⟩ = _ := g1
  simp only [s44] at g1
  have e2 : C 28 [.tok, tS l] (some d1) = _ := e2
  have h12 := h12 k
  generalize lotT k l = lt at *
  by_cases hv : lt.hv = true
  · simp [args, retV, callO, hvR, T.hv, Ex.quiet, Ex.quiets, cmpT, isT, g1, e2, h12, hv, frzV, frz1]
  · simp [args, retV, callO, hvR, T.hv, Ex.quiet, Ex.quiets, cmpT, isT, g1, e2, h12, hv, frzV, frz1]
theorem f44 (n : Nat) (r : Raw) (hr : r.Ok) (l : List Str) (hl : LotOk r l) (d : Draw) (m : Nat) (hd : Dok d (m + 9)) : ∃ d', callN Γ (n + 9) 44 [.tok, r.T, boxT r, tS l] (some d) = some (.ok (false, .bl true), some d') ∧ Dok d' m := by
  have hl8 := hl.len hr
  have sl : ∀ x ∈ l, sOk x := fun x hx => (hr.sw x (hl.m x hx)).ok
  have sb : ∀ b ∈ r.bu, sOk b := fun b hb => (hr.bw b hb).ok
  have hz : l.length ≤ 1000 := by omega
  rw [call_fn g44 rfl]
  refine e44 hr.bl (fun d m h => f28 (n + 6) l hz d m h) (fun k d => f27 (n + 7) _ (by have := (sd_lot (k := k) sl hz).2.1; omega) (sd_lot sl hz).2.2 d)
    (fun b hb d => f38 (n + 6) r hr l b sl (sb b hb) d) (fun b hb d => f39 (n + 6) r hr l b sl (sb b hb) hz d) (fun b hb d => f40 (n + 5) r hr l b sl (sb b hb) hz d)
    (fun b hb k d => f16 n r hr k l hl b hb d) (fun b hb k d => f18 n r hr k l hl b hb d) (fun b hb k d => f20 n r hr k l hl b hb d)
    (fun b hb => f26 (n + 6) _ ?_ ?_) (fun k => f26 (n + 6) _ (by have := (sd_lot (k := k) sl hz).2.1; omega) (sd_lot sl hz).1) (fun k d => f12 (n + 2) r hr k l hl d) d m hd
  · have := (sd_oPT (r := r) (b := b) sl).2
    simp only [aT, T.dep, T.deps]
    omega
  · have := (sd_oPT (r := r) (b := b) sl).1
    simp [aT, sd, sds, this]
end Law
end PB
end
section
set_option Elab.async false
set_option linter.all false
set_option maxRecDepth 100000
/-! K19: what is refused. -/
namespace PB
namespace Law
open PySem L2
abbrev s45 (r : Raw) (x3 x4 : Option R) : List (Option R) := [some (false, .tok), some (false, r.T), some (false, boxT r), x3, x4]
def wT (w : Str) (t : T) : T := .lst [.str w, t]
theorem mul3 (x : T) : binT .mul (.lst [x]) (.int 3) = some (true, .lst [x, x, x]) := by
  have q : 1 * 3 ≤ sizeLine := by have := line_big; omega
  simp only [binT]
  rw [if_pos (by simp; exact q)]
  rfl
theorem mul4 (x : T) : binT .mul (.lst [x]) (.int 4) = some (true, .lst [x, x, x, x]) := by
  have q : 1 * 4 ≤ sizeLine := by have := line_big; omega
  simp only [binT]
  rw [if_pos (by simp; exact q)]
  rfl
theorem frz1_f {s : List (Option R)} {i : Nat} {t : T} (h : s[i]? = some (some (false, t))) : frz1 i s = s := frz1_get' i s t h
/-- refused for the lot -/
theorem tl {C : Orc} {t : T} (h27 : ∀ d, C 27 [t] d = some (.ok (cpB t, t), d)) (r : Raw) {f : Nat} (hf : ExcC C f [boxT r, t, .non] (S "BadLot") [(S "lot", t)]) (x3 : Option R) (d : Option Draw) : ev C (.told true (.call f [(.var 2), (.call 27 [(.var 4)]), (.con .non)]) tells) ⟨s45 r x3 (some (false, t)), d⟩ = some (.ok (true, wT (S "lot") t), ⟨s45 r x3 (some (false, t)), d⟩) :=
  told_exc (e' := ⟨s45 r x3 (some (false, t)), d⟩) (by simp [s45, callO, h27, frzV, frz1, hf d, Ex.quiet, Ex.quiets]) (caught_lot t)
/-- .. for the button -/
theorem tb {C : Orc} {t : T} (h27 : ∀ d, C 27 [t] d = some (.ok (cpB t, t), d)) (r : Raw) {f : Nat} (hf : ExcC C f [boxT r, tS r.st, t] (S "BadButton") [(S "button", t)]) (x3 : Option R) (d : Option Draw) : ev C (.told true (.call f [(.var 2), (.p1 .list (.ix (.var 1) (.con (.int 0)))), (.call 27 [(.var 4)])]) tells) ⟨s45 r x3 (some (false, t)), d⟩ = some (.ok (true, wT (S "button") t), ⟨s45 r x3 (some (false, t)), d⟩) := by
  have hf := hf d
  simp only [tS] at hf
  exact told_exc (e' := ⟨s45 r x3 (some (false, t)), d⟩) (by simp [s45, callO, h27, frzV, frz1, hf, Ex.quiet, Ex.quiets, ixT, atI, ixN, prim1, itemsT]) (caught_button t)
/-- .. for the box -/
theorem tx {C : Orc} {t : T} (h27 : ∀ d, C 27 [t] d = some (.ok (cpB t, t), d)) (r : Raw) {f : Nat} (hf : ExcC C f [t, .non, .non] (S "BadBox") [(S "box", t)]) (x3 : Option R) (d : Option Draw) : ev C (.told true (.call f [(.call 27 [(.var 4)]), (.con .non), (.con .non)]) tells) ⟨s45 r x3 (some (false, t)), d⟩ = some (.ok (true, wT (S "box") t), ⟨s45 r x3 (some (false, t)), d⟩) :=
  told_exc (e' := ⟨s45 r x3 (some (false, t)), d⟩) (by simp [s45, callO, h27, frzV, frz1, hf d, Ex.quiet, Ex.quiets]) (caught_box t)
theorem tx2 {C : Orc} {t : T} (h27 : ∀ d, C 27 [t] d = some (.ok (cpB t, t), d)) (r : Raw) {f : Nat} (hf : ExcC C f [t, .non] (S "BadBox") [(S "box", t)]) (x3 : Option R) (d : Option Draw) : ev C (.told true (.call f [(.call 27 [(.var 4)]), (.con .non)]) tells) ⟨s45 r x3 (some (false, t)), d⟩ = some (.ok (true, wT (S "box") t), ⟨s45 r x3 (some (false, t)), d⟩) :=
  told_exc (e' := ⟨s45 r x3 (some (false, t)), d⟩) (by simp [s45, callO, h27, frzV, frz1, hf d, Ex.quiet, Ex.quiets]) (caught_box t)
/-- no lot: three refusals -/
theorem l1 {C : Orc} {r : Raw} {t : T} (h27 : ∀ d, C 27 [t] d = some (.ok (cpB t, t), d)) (h12 : ∀ d, C 12 [boxT r, t] d = some (.ok (false, .bl false), d)) (h41 : ∀ d, C 41 [r.T, t] d = some (.ok (false, .bl false), d)) (hs : SameC C (.bl false)) (hs3 : SameC C (.lst [wT (S "lot") t, wT (S "lot") t, wT (S "lot") t]))
    (h16 : ExcC C 16 [boxT r, t, .non] (S "BadLot") [(S "lot", t)]) (h18 : ExcC C 18 [boxT r, t, .non] (S "BadLot") [(S "lot", t)]) (h20 : ExcC C 20 [boxT r, t, .non] (S "BadLot") [(S "lot", t)]) (x3 : Option R) (d : Option Draw) : ∃ x3', sts C b45b1 ⟨s45 r x3 (some (false, t)), d⟩ = some (.next, ⟨s45 r x3' (some (false, t)), d⟩) := by
  have c1 : ∀ x3, ev C b45c1 ⟨s45 r x3 (some (false, t)), d⟩ = _ := fun x3 => tl h27 r h16 x3 d
  have c2 : ∀ x3, ev C b45c2 ⟨s45 r x3 (some (false, t)), d⟩ = _ := fun x3 => tl h27 r h18 x3 d
  have c3 : ∀ x3, ev C b45c3 ⟨s45 r x3 (some (false, t)), d⟩ = _ := fun x3 => tl h27 r h20 x3 d
  have q1 : 1 ≤ sizeLine := by have := line_big; omega
  have q2 : 2 ≤ sizeLine := by have := line_big; omega
  have q0 : 0 < sizeLine := by have := line_big; omega
  have q4 : 1 < sizeLine := by have := line_big; omega
  have q5 : 2 < sizeLine := by have := line_big; omega
  have hs3 := hs3 d
  have hs := hs d
  refine ⟨some (true, .lst [wT (S "lot") t, wT (S "lot") t, wT (S "lot") t]), ?_⟩
  simp only [s45, wT] at c1 c2 c3 hs3 ⊢
  simp only [b45b1]
  generalize b45c1 = z1 at *
  generalize b45c2 = z2 at *
  generalize b45c3 = z3 at *
  simp [callO, hvR, T.hv, Ex.quiet, Ex.quiets, h27 d, h12 d, h41 d, hs, c1, c2, c3, asgR, isLst, mutS, mutT, mul3, hs3, q0, q1, q2, q4, q5, frzV, frz1]
theorem l2 {C : Orc} {r : Raw} {t : T} (h27 : ∀ d, C 27 [t] d = some (.ok (cpB t, t), d)) (hs3 : SameC C (.lst [wT (S "button") t, wT (S "button") t, wT (S "button") t]))
    (h16 : ExcC C 16 [boxT r, tS r.st, t] (S "BadButton") [(S "button", t)]) (h18 : ExcC C 18 [boxT r, tS r.st, t] (S "BadButton") [(S "button", t)]) (h20 : ExcC C 20 [boxT r, tS r.st, t] (S "BadButton") [(S "button", t)]) (x3 : Option R) (d : Option Draw) : ∃ x3', sts C b45b2 ⟨s45 r x3 (some (false, t)), d⟩ = some (.next, ⟨s45 r x3' (some (false, t)), d⟩) := by
  have c1 : ∀ x3, ev C b45c4 ⟨s45 r x3 (some (false, t)), d⟩ = _ := fun x3 => tb h27 r h16 x3 d
  have c2 : ∀ x3, ev C b45c5 ⟨s45 r x3 (some (false, t)), d⟩ = _ := fun x3 => tb h27 r h18 x3 d
  have c3 : ∀ x3, ev C b45c6 ⟨s45 r x3 (some (false, t)), d⟩ = _ := fun x3 => tb h27 r h20 x3 d
  have q1 : 1 ≤ sizeLine := by have := line_big; omega
  have q2 : 2 ≤ sizeLine := by have := line_big; omega
  have q0 : 0 < sizeLine := by have := line_big; omega
  have q4 : 1 < sizeLine := by have := line_big; omega
  have q5 : 2 < sizeLine := by have := line_big; omega
  have hs3 := hs3 d
  refine ⟨some (true, .lst [wT (S "button") t, wT (S "button") t, wT (S "button") t]), ?_⟩
  simp only [s45, wT] at c1 c2 c3 hs3 ⊢
  simp only [b45b2]
  generalize b45c4 = z1 at *
  generalize b45c5 = z2 at *
  generalize b45c6 = z3 at *
  simp [callO, hvR, T.hv, Ex.quiet, Ex.quiets, c1, c2, c3, asgR, isLst, mutS, mutT, mul3, hs3, q0, q1, q2, q4, q5, frzV, frz1]
theorem l3 {C : Orc} {r : Raw} {t : T} (h27 : ∀ d, C 27 [t] d = some (.ok (cpB t, t), d)) (hs3 : SameC C (.lst [wT (S "box") t, wT (S "box") t, wT (S "box") t, wT (S "box") t]))
    (h12 : ExcC C 12 [t, .non] (S "BadBox") [(S "box", t)]) (h16 : ExcC C 16 [t, .non, .non] (S "BadBox") [(S "box", t)]) (h18 : ExcC C 18 [t, .non, .non] (S "BadBox") [(S "box", t)]) (h20 : ExcC C 20 [t, .non, .non] (S "BadBox") [(S "box", t)]) (x3 : Option R) (d : Option Draw) : ∃ x3', sts C b45b3 ⟨s45 r x3 (some (false, t)), d⟩ = some (.next, ⟨s45 r x3' (some (false, t)), d⟩) := by
  have c0 : ∀ x3, ev C b45c7 ⟨s45 r x3 (some (false, t)), d⟩ = _ := fun x3 => tx2 h27 r h12 x3 d
  have c1 : ∀ x3, ev C b45c8 ⟨s45 r x3 (some (false, t)), d⟩ = _ := fun x3 => tx h27 r h16 x3 d
  have c2 : ∀ x3, ev C b45c9 ⟨s45 r x3 (some (false, t)), d⟩ = _ := fun x3 => tx h27 r h18 x3 d
  have c3 : ∀ x3, ev C b45c10 ⟨s45 r x3 (some (false, t)), d⟩ = _ := fun x3 => tx h27 r h20 x3 d
  have q1 : 1 ≤ sizeLine := by have := line_big; omega
  have q2 : 2 ≤ sizeLine := by have := line_big; omega
  have q0 : 0 < sizeLine := by have := line_big; omega
  have q4 : 1 < sizeLine := by have := line_big; omega
  have q5 : 2 < sizeLine := by have := line_big; omega
  have q6 : 3 < sizeLine := by have := line_big; omega
  have hs3 := hs3 d
  refine ⟨some (true, .lst [wT (S "box") t, wT (S "box") t, wT (S "box") t, wT (S "box") t]), ?_⟩
  simp only [s45, wT] at c0 c1 c2 c3 hs3 ⊢
  simp only [b45b3]
  generalize b45c7 = z0 at *
  generalize b45c8 = z1 at *
  generalize b45c9 = z2 at *
  generalize b45c10 = z3 at *
  simp [callO, hvR, T.hv, Ex.quiet, Ex.quiets, c0, c1, c2, c3, asgR, isLst, mutS, mutT, mul4, hs3, q0, q1, q2, q4, q5, q6, frzV, frz1]
end Law
end PB
end
section
set_option Elab.async false
set_option linter.all false
set_option maxRecDepth 100000
/-! K20: the law. -/
namespace PB
namespace Law
open PySem L2
def Three (C : Orc) (ts : List T) (X : Str) (fs : List (Str × T)) : Prop := ExcC C 16 ts X fs ∧ ExcC C 18 ts X fs ∧ ExcC C 20 ts X fs
def BadBtn (r : Raw) (t : T) : Prop := noStr t = true ∨ ∃ x, t = .str x ∧ x ∉ r.bu
theorem e45 {C : Orc} {r : Raw} (hr : r.Ok) (d : Option Draw) {os : List T} (h43 : C 43 [r.T] d = some (.ok (true, .lst os), d)) (ho : ∀ t ∈ os, GoodOdd r t)
    (h27 : ∀ t, cp t = true → t.dep ≤ 3 → ∀ d, C 27 [t] d = some (.ok (cpB t, t), d)) (h12 : ∀ t, OddT r t → ∀ d, C 12 [boxT r, t] d = some (.ok (false, .bl false), d)) (h41 : ∀ t, OddT r t → ∀ d, C 41 [r.T, t] d = some (.ok (false, .bl false), d))
    (hs : ∀ t, sd t = true → t.dep ≤ 5 → SameC C t) (hl : ∀ t, OddT r t → Three C [boxT r, t, .non] (S "BadLot") [(S "lot", t)]) (hb : ∀ t, BadBtn r t → Three C [boxT r, tS r.st, t] (S "BadButton") [(S "button", t)])
    (hx : ∀ t, noBox t = true → Three C [t, .non, .non] (S "BadBox") [(S "box", t)] ∧ ExcC C 12 [t, .non] (S "BadBox") [(S "box", t)]) (hF : FreeC C) :
    fin (sts C b45 ⟨args [.tok, r.T, boxT r] 5, d⟩) = some (.ok (false, .bl true), d) := by
  have hsw : ∀ w t, sOk w → sd t = true → t.dep ≤ 3 → SameC C (.lst [wT w t, wT w t, wT w t]) ∧ SameC C (.lst [wT w t, wT w t, wT w t, wT w t]) := fun w t hw h1 h2 => by
    have hw : PyData.strOk w = true := hw
    exact ⟨hs _ (by simp [wT, sd, sds, h1, hw]) (by simp [wT, T.dep, T.deps]; omega), hs _ (by simp [wT, sd, sds, h1, hw]) (by simp [wT, T.dep, T.deps]; omega)⟩
  have kl : sOk (S "lot") := lot_ok
  have kb : sOk (S "button") := by unfold sOk; decide +kernel
  have kx : sOk (S "box") := by unfold sOk; decide +kernel
  -- no lots
  obtain ⟨e1, g1, x3, x4, he⟩ := st_for_all (C := C) (g := .nm 4) (it := .seq (.call 43 [(.var 1)])) (b := b45b1) (e := ⟨s45 r none none, d⟩) (e1 := ⟨s45 r none none, d⟩) (xs := os)
    (fun _ e => ∃ x3 x4, e = ⟨s45 r x3 x4, d⟩)
    (by simp [dictAt]) (by
      have h43 : C 43 [.lst [.lst (r.st.map .str), .lst (r.bu.map .str), .lst (r.ro.map rowT)]] d = _ := h43
      simp [s45, callO, Ex.quiet, Ex.quiets, h43, seqS, seqOf, frzV, frz1]) ⟨none, none, rfl⟩ (fun i t e ht ⟨x3, x4, he⟩ => by
      subst he
      have ⟨o1, o2, o3, o4⟩ := ho t (List.mem_of_getElem? ht)
      obtain ⟨a1, a2, a3⟩ := hl t o1
      obtain ⟨x3', q⟩ := l1 (r := r) (h27 t o2 (by omega)) (h12 t o1) (h41 t o1) (hs _ rfl (by simp [T.dep])) (hsw _ t kl o3 (by omega)).1 a1 a2 a3 x3 d
      exact ⟨s45 r x3 (some (false, t)), _, by simp [bindT, s45], q, _, _, rfl⟩)
  subst he
  -- no buttons
  obtain ⟨free, e2, hw, hf⟩ := hF r.bu (S "stranger") d stranger_wrd (by have := hr.bl; omega)
  obtain ⟨b0, hb0⟩ : ∃ b0, r.bu[0]? = some b0 := by
    cases h : r.bu with
    | nil => exact absurd h hr.bz
    | cons b0 _ => exact ⟨b0, rfl⟩
  have ib : ixT (.lst (r.bu.map T.str)) (.int 0) = some (.str b0) := atI_nat' (i := 0) (by simp [hb0])
  have ir : ixT (.lst [.lst (r.st.map .str), .lst (r.bu.map .str), .lst (r.ro.map rowT)]) (.int 1) = some (.lst (r.bu.map .str)) := rfl
  have kb0 : PyData.strOk b0 = true := (hr.bw b0 (List.mem_of_getElem? hb0)).ok
  have kfr : PyData.strOk free = true := hw.ok
  have kno : PyData.strOk (S "No") = true := no_ok
  have kem : PyData.strOk (S "") = true := by decide +kernel
  have knb : PyData.strOk (S "box") = true := kx
  have q7 : 7 ≤ sizeLine := by have := line_big; omega
  have q5 : 5 ≤ sizeLine := by have := line_big; omega
  have q1 : 1 ≤ sizeLine := by have := line_big; omega
  have q0 : 0 ≤ sizeLine := by have := line_big; omega
  obtain ⟨e2', g2, x3', x4', he⟩ := st_for_all (C := C) (g := .nm 4) (it := .seq (.tup [(.con .non), (.con (.int 5)), (.con (.str (S ""))), (.con (.str (S "No"))), (.lst [(.ix (.ix (.var 1) (.con (.int 1))) (.con (.int 0)))]), (.con (.bl true)), (.call 29 [(.ix (.var 1) (.con (.int 1))), (.con (.str (S "stranger")))])])) (b := b45b2) (e := ⟨s45 r x3 x4, d⟩) (e1 := ⟨s45 r x3 x4, d⟩) (xs := [.non, .int 5, .str (S ""), .str (S "No"), .lst [.str b0], .bl true, .str free])
    (fun _ e => ∃ x3 x4, e = ⟨s45 r x3 x4, d⟩)
    (by simp [dictAt]) (by
      have e2 : C 29 [.lst (r.bu.map .str), .str (S "stranger")] d = _ := e2
      simp [s45, callO, hvR, T.hv, Ex.quiet, Ex.quiets, e2, ib, ir, seqS, seqOf, q7, q1, frzV, frz1]) ⟨x3, x4, rfl⟩ (fun i t e ht ⟨x3, x4, he⟩ => by
      subst he
      have ht := List.mem_of_getElem? ht
      have key : BadBtn r t ∧ cp t = true ∧ sd t = true ∧ t.dep ≤ 1 := by
        simp only [List.mem_cons, List.not_mem_nil, or_false] at ht
        rcases ht with rfl | rfl | rfl | rfl | rfl | rfl | rfl
        · exact ⟨.inl rfl, rfl, rfl, by simp [T.dep]⟩
        · exact ⟨.inl rfl, rfl, rfl, by simp [T.dep]⟩
        · refine ⟨.inr ⟨_, rfl, fun h => ?_⟩, rfl, kem, by simp [T.dep]⟩
          have := (hr.bw _ h).lo
          have l0 : (S "").length = 0 := by decide +kernel
          omega
        · exact ⟨.inr ⟨_, rfl, fun h => no_wrd (hr.bw _ h)⟩, rfl, kno, by simp [T.dep]⟩
        · exact ⟨.inl rfl, rfl, by simp [sd, sds, kb0], by simp [T.dep, T.deps]⟩
        · exact ⟨.inl rfl, rfl, rfl, by simp [T.dep]⟩
        · exact ⟨.inr ⟨_, rfl, hf⟩, rfl, kfr, by simp [T.dep]⟩
      obtain ⟨o1, o2, o3, o4⟩ := key
      obtain ⟨a1, a2, a3⟩ := hb t o1
      obtain ⟨x3', q⟩ := l2 (r := r) (h27 t o2 (by omega)) (hsw _ t kb o3 (by omega)).1 a1 a2 a3 x3 d
      exact ⟨s45 r x3 (some (false, t)), _, by simp [bindT, s45], q, _, _, rfl⟩)
  subst he
  -- no boxes
  obtain ⟨e3', g3, x3'', x4'', he⟩ := st_for_all (C := C) (g := .nm 4) (it := .seq (.tup [(.con .non), (.con (.int 5)), (.con (.str (S "box"))), (.lst []), (.dnew false)])) (b := b45b3) (e := ⟨s45 r x3' x4', d⟩) (e1 := ⟨s45 r x3' x4', d⟩) (xs := [.non, .int 5, .str (S "box"), .lst [], .dK []])
    (fun _ e => ∃ x3 x4, e = ⟨s45 r x3 x4, d⟩)
    (by simp [dictAt]) (by simp [s45, seqS, seqOf, q5, q0]) ⟨x3', x4', rfl⟩ (fun i t e ht ⟨x3, x4, he⟩ => by
      subst he
      have ht := List.mem_of_getElem? ht
      have key : noBox t = true ∧ cp t = true ∧ sd t = true ∧ t.dep ≤ 1 := by
        simp only [List.mem_cons, List.not_mem_nil, or_false] at ht
        rcases ht with rfl | rfl | rfl | rfl | rfl
        · exact ⟨rfl, rfl, rfl, by simp [T.dep]⟩
        · exact ⟨rfl, rfl, rfl, by simp [T.dep]⟩
        · exact ⟨rfl, rfl, knb, by simp [T.dep]⟩
        · exact ⟨rfl, rfl, rfl, by simp [T.dep, T.deps]⟩
        · exact ⟨rfl, rfl, rfl, by simp [T.dep]⟩
      obtain ⟨o1, o2, o3, o4⟩ := key
      obtain ⟨⟨a1, a2, a3⟩, a0⟩ := hx t o1
      obtain ⟨x3', q⟩ := l3 (r := r) (h27 t o2 (by omega)) (hsw _ t kx o3 (by omega)).2 a0 a1 a2 a3 x3 d
      exact ⟨s45 r x3 (some (false, t)), _, by simp [bindT, s45], q, _, _, rfl⟩)
  subst he
  have g1 : st C b45f1 ⟨s45 r none none, d⟩ = _ := g1
  have g2 : st C b45f2 ⟨s45 r x3 x4, d⟩ = _ := g2
  have g3 : st C b45f3 ⟨s45 r x3' x4', d⟩ = _ := g3
  simp only [s45] at g1 g2 g3
  simp only [b45]
  generalize b45f1 = z1 at *
  generalize b45f2 = z2 at *
  generalize b45f3 = z3 at *
  simp [args, retV, g1, g2, g3]
theorem lot_all {r : Raw} (hr : r.Ok) : LotOk r r.st := ⟨fun _ h => h, hr.s0, by
  rw [List.filter_eq_self]
  intro x hx
  simpa using hx⟩
theorem f45 (n : Nat) (r : Raw) (hr : r.Ok) (d : Option Draw) : callN Γ (n + 11) 45 [.tok, r.T, boxT r] d = some (.ok (false, .bl true), d) := by
  rw [call_fnT g45 rfl]
  obtain ⟨os, h43, _, ho⟩ := f43 (n + 6) r hr d
  exact e45 hr d h43 ho (fun t h1 h2 d => f27 (n + 7) t (by omega) h1 d) (fun t h d => f12x (n + 2) r t (fun d => odd11 hr h (n + 2) d) d) (fun t h d => odd41 hr h (n + 7) d)
    (fun t h1 h2 => f26 (n + 6) t (by omega) h1) (fun t h => bad_lot hr h n .non) (fun t h => bad_button (k := true) hr (lot_all hr) h n) (fun t h => ⟨bad_box h (n + 4) .non .non, bad_box12 h (n + 6) .non⟩) (fun l w d h1 h2 => f29 (n + 7) l w h1 h2 d)
end Law
end PB
end
section
set_option Elab.async false
set_option linter.all false
set_option maxRecDepth 100000
/-! K21: the law's end. -/
namespace PB
namespace Law
open PySem L2
theorem ints_map (ns : List Int) : intsOf (ns.map .int) = some ns := by
  induction ns with
  | nil => rfl
  | cons a ns ih => simp [intsOf, ih]
theorem f21 (n : Nat) (ns : List Int) (t : T) (h : t = .scr ns ∨ t = .lst (ns.map .int)) : callN Γ (n + 1) 21 [t] none = some (.ok (false, .tok), some ⟨ns, 0, 0, 29⟩) := by
  rw [call_start g21]
  rcases h with rfl | rfl
  · rfl
  · simp only [runF, ints_map, Option.map_some]
theorem dok0 (ns : List Int) (m : Nat) (h : m ≤ 1000000) : Dok ⟨ns, 0, 0, 29⟩ m := ⟨Int.le_refl _, Int.le_refl _, by show (0 : Int) ≤ 29; decide, by show (29 : Int) < 2147483648; decide, by show (0 : Int) + m ≤ _; omega⟩
abbrev s46 (t : T) (x2 x3 x4 x5 : Option R) : List (Option R) := [some (false, t), some (false, .tok), x2, x3, x4, x5]
theorem hvs_raw (r : Raw) : (boxT r).hvIn = true := by simp [T.hvIn, boxF, T.hv]
/-- one turn -/
theorem in46 {C : Orc} (hO : OneC C)
    (h35 : ∀ (d : Draw) (m : Nat) (gone : Int), 0 ≤ gone ∧ gone < 1000000 → Dok d (m + 400) → ∃ (r : Raw) (d' : Draw), C 35 [.tok, .int 1, .int 6, .int gone] (some d) = some (.ok (true, r.T), some d') ∧ r.Ok ∧ Dok d' m)
    (h31 : ∀ r : Raw, r.Ok → ∀ d, C 31 [r.T] d = some (.ok (true, boxT r), d))
    (h37 : ∀ r : Raw, r.Ok → ∀ (d : Draw) (m : Nat), Dok d (m + 9) → ∃ l d', C 37 [.tok, r.T, .int 1] (some d) = some (.ok (true, tS l), some d') ∧ LotOk r l ∧ Dok d' m)
    (h44 : ∀ r : Raw, r.Ok → ∀ l, LotOk r l → ∀ (d : Draw) (m : Nat), Dok d (m + 9) → ∃ d', C 44 [.tok, r.T, boxT r, tS l] (some d) = some (.ok (false, .bl true), some d') ∧ Dok d' m)
    (h45 : ∀ r : Raw, r.Ok → ∀ d, C 45 [.tok, r.T, boxT r] d = some (.ok (false, .bl true), d))
    (t : T) (x2 x3 x4 x5 : Option R) (d : Draw) (m : Nat) (hd : Dok d (m + 500)) : ∃ x3' x4' x5' d', sts C b46b2 ⟨s46 t x2 x3 x4 x5, some d⟩ = some (.next, ⟨s46 t x2 x3' x4' x5', some d'⟩) ∧ Dok d' m := by
  have q3 : 3 ≤ sizeLine := by have := line_big; omega
  obtain ⟨g, hg, d1, e1, hd1⟩ := hO d (m + 490) [.int 0, .int 3, .int 8] (by simp) (by simp) (hd.le (by omega))
  obtain ⟨gone, rfl, hgo⟩ : ∃ gone : Int, g = .int gone ∧ 0 ≤ gone ∧ gone < 1000000 := by
    simp only [List.mem_cons, List.not_mem_nil, or_false] at hg
    rcases hg with rfl | rfl | rfl
    · exact ⟨0, rfl, by omega⟩
    · exact ⟨3, rfl, by omega⟩
    · exact ⟨8, rfl, by omega⟩
  obtain ⟨r, d2, e2, hr, hd2⟩ := h35 d1 (m + 90) gone hgo (hd1.le (by omega))
  have e3 := h31 r hr (some d2)
  obtain ⟨e', g1, x5', d3, he, g2⟩ := st_for_all (C := C) (g := .nm 5) (it := .rng (.con (.int 5))) (b := b46b1) (e := ⟨s46 t x2 (some (false, r.T)) (some (true, boxT r)) x5, some d2⟩) (e1 := ⟨s46 t x2 (some (false, r.T)) (some (true, boxT r)) x5, some d2⟩) (xs := rngL 0 (5 : Nat))
    (fun i e => ∃ x5 d', e = ⟨s46 t x2 (some (false, r.T)) (some (true, boxT r)) x5, some d'⟩ ∧ Dok d' (m + 18 * (5 - i)))
    (by simp [dictAt]) (itL_con (n := 5) (by omega)) ⟨x5, d2, rfl, hd2⟩ (fun i tt e ht ⟨x5, d3, he, k1⟩ => by
      subst he
      obtain ⟨rfl, hi⟩ := rng_get ht
      have hi' : i < 5 := by omega
      obtain ⟨l, d4, e4, hl, hd4⟩ := h37 r hr d3 (m + 18 * (5 - (i + 1)) + 9) (k1.le (by omega))
      obtain ⟨d5, e5, hd5⟩ := h44 r hr l hl d4 (m + 18 * (5 - (i + 1))) hd4
      refine ⟨s46 t x2 (some (false, r.T)) (some (true, boxT r)) (some (false, .int i)), _, by simp [bindT, s46], ?_, some (false, .int i), d5, rfl, hd5⟩
      simp only [s46]
      generalize r.T = rt at *
      generalize boxT r = bt at *
      have e4 : C 37 [.tok, rt, .int 1] (some d3) = _ := e4
      simp [callO, hvR, T.hv, T.hvIn, Ex.quiet, Ex.quiets, e4, e5])
  subst he
  rw [rng_len, show ((5 : Nat) : Int).toNat = 5 from rfl] at g2
  refine ⟨some (false, r.T), some (true, boxT r), x5', d3, ?_, g2.le (by omega)⟩
  have g1 : st C b46f1 ⟨s46 t x2 (some (false, r.T)) (some (true, boxT r)) x5, some d2⟩ = _ := g1
  have e6 := h45 r hr (some d3)
  have hvb := hvs_raw r
  simp only [s46] at g1 ⊢
  simp only [b46b2]
  generalize b46f1 = z1 at *
  generalize r.T = rt at *
  generalize boxT r = bt at *
  have e1 : C 24 [.tok, .lst [.int 0, .int 3, .int 8]] (some d) = _ := e1
  have e2 : C 35 [.tok, .int 1, .int 6, .int gone] (some d1) = _ := e2
  have hvt : hvR (true, bt) = true := hvb
  have hvf : hvR (false, T.bl true) = false := rfl
  have hvi : hvR (false, T.int gone) = false := rfl
  by_cases hvx : hvR (true, rt) = true
  · simp [callO, hvt, hvf, hvi, hvx, Ex.quiet, Ex.quiets, e1, e2, e3, q3, asgR, frzV, frz1, g1, e6]
  · simp [callO, hvt, hvf, hvi, hvx, Ex.quiet, Ex.quiets, e1, e2, e3, q3, asgR, frzV, frz1, g1, e6]
theorem f46 (n : Nat) (ns : List Int) (t : T) (h : t = .scr ns ∨ t = .lst (ns.map .int)) : ∃ d', callN Γ (n + 12) 46 [t] none = some (.ok (false, .bl true), d') := by
  have h21 := f21 (n + 10) ns t h
  have hm : ∀ (x2 x3 x4 x5 : Option R) (d : Draw) (m : Nat), Dok d (m + 500) → ∃ x3' x4' x5' d', sts (callN Γ (n + 11)) b46b2 ⟨s46 t x2 x3 x4 x5, some d⟩ = some (.next, ⟨s46 t x2 x3' x4' x5', some d'⟩) ∧ Dok d' m := fun x2 x3 x4 x5 d m hd =>
    in46 (fun d m xs h1 h2 h3 => f24 (n + 9) d m xs h1 h2 h3) (fun d m gone hg hd => by
      obtain ⟨r, d', e, h1, _, _, _, h2⟩ := f35 (n + 7) 1 6 (by omega) gone hg d m hd
      exact ⟨r, d', e, h1, h2⟩) (fun r hr d => f31 (n + 3) r hr d) (fun r hr d m hd => f37 (n + 8) r hr 1 (by omega) d m hd) (fun r hr l hl d m hd => f44 (n + 2) r hr l hl d m hd) (fun r hr d => f45 n r hr d) t x2 x3 x4 x5 d m hd
  rw [call_fn g46 rfl]
  generalize callN Γ (n + 11) = C at *
  obtain ⟨e', g1, x2, x3, x4, x5, d1, he, g2⟩ := st_for_all (C := C) (g := .nm 2) (it := .rng (.con (.int 2))) (b := b46b2) (e := ⟨s46 t none none none none, some ⟨ns, 0, 0, 29⟩⟩) (e1 := ⟨s46 t none none none none, some ⟨ns, 0, 0, 29⟩⟩) (xs := rngL 0 (2 : Nat))
    (fun i e => ∃ x2 x3 x4 x5 d', e = ⟨s46 t x2 x3 x4 x5, some d'⟩ ∧ Dok d' (500 * (2 - i)))
    (by simp [dictAt]) (itL_con (n := 2) (by omega)) ⟨none, none, none, none, _, rfl, dok0 _ _ (by omega)⟩ (fun i tt e ht ⟨x2, x3, x4, x5, d3, he, k1⟩ => by
      subst he
      obtain ⟨rfl, hi⟩ := rng_get ht
      have hi' : i < 2 := by omega
      obtain ⟨x3', x4', x5', d4, q1, q2⟩ := hm (some (false, .int i)) x3 x4 x5 d3 (500 * (2 - (i + 1))) (k1.le (by omega))
      exact ⟨s46 t (some (false, .int i)) x3 x4 x5, _, by simp [bindT, s46], q1, _, _, _, _, d4, rfl, q2⟩)
  subst he
  refine ⟨some d1, ?_⟩
  have g1 : st C b46f2 ⟨s46 t none none none none, some ⟨ns, 0, 0, 29⟩⟩ = _ := g1
  simp only [s46] at g1
  simp only [b46]
  generalize b46f2 = z1 at *
  simp [args, retV, callO, hvR, T.hv, Ex.quiet, Ex.quiets, asgR, h21, g1]
theorem main10 : ∀ (ns : List Int) (t : T), ns.length ≤ 63 → (t = .scr ns ∨ t = .lst (ns.map .int)) → ∃ d', callN Γ 12 46 [t] none = some (.ok (false, .bl true), d') := fun ns t _ h => f46 0 ns t h
end Law
end PB
end
theorem PySem.Challenge.cw_pressrecord_k10_lots_and_clear_presses_holds : PySem.Challenge.rw_pressrecord_k10_lots_and_clear_presses.Holds := by
  exact PB.Law.holds 12 ⟨rfl, by decide +kernel, by decide +kernel⟩ PB.Law.main10
