import PyProof.Rows.All
import Wide.All
import OpenK.AllK
import Wide.FinOn
import KE.LtData
import PyProof.ReprLoop
import PyProof.ReprDict
import PyProof.Rows.StrMul
import HandS.ForMost
import KE.KExcSuper
import HandS.ExcInit
import HandS.ExcSuper
import HandS.Lambda
import HandS.ExcIs
import HandS.ExcField
import KE.KExcIs
import KE.DataEq
import KE.SortData
import KE.KDictKeyed
import HandS.Exc
import HandS.Flow
import HandS.Defaults
import HandS.Walk
import HandS.Zip
import HandS.Conv
import HandS.DictComp
import HandS.DictTup
import HandS.TupAny
import HandS.Wide
import HandS.ExcOwn
import HandS.Style
import HandS.SlotsOwn
import HandS.Property
import HandS.HeadHook1
import KE.KEqDict
import KE.DataCmp
import HandS.IsInst
import HandS.WordsDict
import HandS.Text
import KE.DataAny
import PyProof.Rows.ReprR
import KE.KDictSum
import HandS.More
import HandS.TupLen
import HandS.ExcValue
import HandS.ExcBuiltin
import HandS.SetKeys
import PyProof.SeqIndex
import HandS.Deep
import KE.KIndexOf
import HandS.Star
import HandS.Iter
import HandS.TryOnly
import HandS.Comp
import KE.GoesNew
import KE.KDictZip
import HandS.HeadEnd
import HandS.HeadHook2
import HandS.Head0
import HandS.Head1
import HandS.Head2
import PySem.Challenge.RW_unseenwhole_k00_errors_and_what_they_kee
section
set_option Elab.async false
set_option linter.all false
set_option maxRecDepth 100000
/-! Z, part 1: values, a small positionless language, its evaluator. Plain Lean: no machine in sight. -/
namespace Z
open PySem PySem.W

inductive Ty where | int | str | bool | tuple | list | dict | valueError
  deriving DecidableEq
/-- built-in functions and classes that are called -/
inductive Bi where | len | all | any | abs | min | max | sorted | repr | int | tuple | list | listM | dict | dictM | isinstance | bool | str | sum | set | valueError
  deriving DecidableEq
/-- built-in methods -/
inductive Bm where | append | extend | pop | split | join | setdefault | get | index | indexL | update | items | upper | replace
  deriving DecidableEq

inductive D where
  | non | bl (b : Bool) | int (i : Int) | str (s : Str)
  | tup (ds : List D) | lst (ds : List D) | dct (ks vs : List D) | set (ds : List D) | scr (ds : List D)
  | ins (c : Nat) (fs : List Nat) (vs : List D)
  | exc (c : Nat) (v : D)
  | ref (n : Nat) | fn (f : Nat) | cls (c : Nat) | ty (t : Ty)
  deriving Inhabited
/-- what stands in the store of things that change -/
inductive O where
  | lst (ds : List D) | dct (ks vs : List D) | ins (c : Nat) (fs : List Nat) (vs : List D)

inductive R (α : Type) where
  | ok (a : α) (S : List O) | err (e : D) (S : List O) | bad
@[inline] def R.bind {α β : Type} (x : R α) (f : α → List O → R β) : R β := match x with
  | .ok a S => f a S
  | .err e S => .err e S
  | .bad => .bad
@[simp] theorem R.bind_ok {α β : Type} (a : α) (S : List O) (f : α → List O → R β) : R.bind (.ok a S) f = f a S := rfl
@[simp] theorem R.bind_err {α β : Type} (e : D) (S : List O) (f : α → List O → R β) : R.bind (.err e S : R α) f = .err e S := rfl
@[simp] theorem R.bind_bad {α β : Type} (f : α → List O → R β) : R.bind (.bad : R α) f = .bad := rfl

/-! ### pure data -/
mutual
def D.py : D → Option PyData
  | .non => some .none
  | .bl b => some (.bool b)
  | .int i => some (.int i)
  | .str s => some (.str s)
  | .tup ds => (pys ds).map .tuple
  | .lst ds => (pys ds).map .list
  | .scr ds => (pys ds).map .list
  | _ => none
def pys : List D → Option (List PyData)
  | [] => some []
  | d :: ds => match d.py, pys ds with
    | some x, some xs => some (x :: xs)
    | _, _ => none
end
mutual
/-- all references lie below k -/
def D.und (k : Nat) : D → Bool
  | .tup ds => unds k ds
  | .lst ds => unds k ds
  | .set ds => unds k ds
  | .scr ds => unds k ds
  | .dct ks vs => unds k ks && unds k vs
  | .ins _ _ vs => unds k vs
  | .exc _ v => v.und k
  | .ref n => decide (n < k)
  | _ => true
def unds (k : Nat) : List D → Bool
  | [] => true
  | d :: ds => d.und k && unds k ds
end
def O.und (k : Nat) : O → Bool
  | .lst ds => unds k ds
  | .dct ks vs => unds k ks && unds k vs
  | .ins _ _ vs => unds k vs
mutual
/-- == of pure data -/
def D.eqv : D → D → Bool
  | .non, .non => true
  | .bl a, .bl b => a == b
  | .bl a, .int j => (if a then 1 else 0) == j
  | .int i, .bl b => i == (if b then 1 else 0)
  | .int i, .int j => i == j
  | .str x, .str y => x == y
  | .tup xs, .tup ys => eqvs xs ys
  | .lst xs, .lst ys => eqvs xs ys
  | .scr xs, .lst ys => eqvs xs ys
  | _, _ => false
def eqvs : List D → List D → Bool
  | [], [] => true
  | x :: xs, y :: ys => x.eqv y && eqvs xs ys
  | _, _ => false
end
mutual
/-- how deep data are -/
def D.dep : D → Nat
  | .tup ds => deps ds + 1
  | .lst ds => deps ds + 1
  | .scr ds => deps ds + 1
  | _ => 0
def deps : List D → Nat
  | [] => 0
  | d :: ds => max d.dep (deps ds)
end
/-- one of two is not too deep -/
def flat2 (x y : D) : Bool := decide (x.dep ≤ 60) || decide (y.dep ≤ 60)
def notN : PyData → Bool
  | .none => false
  | _ => true
/-- < of data that are alike -/
def D.lt (a b : D) : Option Bool := match a.py, b.py with
  | some x, some y => if alike x y && flat2 a b && notN x then some (dataLt x y) else none
  | _, _ => none

/-! ### dicts -/
def keyS : D → Bool
  | .str _ => true
  | .int _ => true
  | _ => false
mutual
def keyN : Nat → D → Bool
  | _, .str _ => true
  | _, .int _ => true
  | 0, .tup _ => false
  | m + 1, .tup ds => keyNs m ds
  | _, _ => false
def keyNs : Nat → List D → Bool
  | _, [] => true
  | m, d :: ds => keyN m d && keyNs m ds
end
def keyT : D → Bool
  | .tup ds => keyNs 6 ds
  | _ => false
/-- the key may be looked for, put in -/
def okKey (ks : List D) (k : D) : Bool := keyS k && ks.all keyS
/-- the same, of tuples -/
def okT (ks : List D) (k : D) : Bool := keyT k && ks.all keyT
def dget : List D → List D → D → Option D
  | k :: ks, v :: vs, x => if k.eqv x then some v else dget ks vs x
  | _, _, _ => none
def dset : List D → List D → D → D → List D
  | k :: ks, v :: vs, x, y => (if k.eqv x then y else v) :: dset ks vs x y
  | _, vs, _, _ => vs
def dput (ks vs : List D) (x y : D) : List D × List D := if ks.any (fun k => k.eqv x) then (ks, dset ks vs x y) else (ks ++ [x], vs ++ [y])
def dputs (ks vs : List D) : List D → List D → List D × List D
  | x :: xs, y :: ys => dputs (dput ks vs x y).1 (dput ks vs x y).2 xs ys
  | _, _ => (ks, vs)

/-! ### the language -/
mutual
inductive LE where
  | nev | var (i : Nat) | cst (d : D)
  | bin (op : Operator) (a b : LE) | neg (a : LE) | cmp (op : CmpOp) (a b : LE) | chn (o1 o2 : CmpOp) (a b c : LE)
  | and (a b : LE) | or (a b : LE) | not (a : LE) | ite (c a b : LE)
  | call (f : Nat) (es : LEs) | new (c : Nat) (es : LEs) | bi (f : Bi) (es : LEs) | bii (f : Bi) (it : LI)
  | mth (o : LE) (b : Option Bm) (m : Option Nat) (es : LEs) | atr (o : LE) (f : Nat)
  | idx (a i : LE) | slc (a : LE) (lo hi : LO) (st : Option Int)
  | tup (es : LEs) | lst (mu : Bool) (es : LEs) | dct (mu : Bool) (ks vs : LEs)
  | lc (mu : Bool) (e : LE) (t : LT) (it : LI) (ifs : LO) (own : List Nat)
  | lc2 (mu : Bool) (e : LE) (t : LT) (it : LI) (ifs : LO) (t2 : LT) (it2 : LI) (ifs2 : LO) (own : List Nat)
  | dc (mu : Bool) (k v : LE) (t : LT) (it : LI) (ifs : LO) (own : List Nat)
inductive LEs where
  | nil | cons (e : LE) (es : LEs) | star (e : LE) (es : LEs)
inductive LO where
  | no | some (e : LE)
/-- what is walked -/
inductive LI where
  | nev | val (e : LE) | rng (es : LEs) | zip (es : LEs) | enm (e : LE) | items (e : LE)
inductive LT where
  | nm (i : Nat) | tp (ts : LTs)
inductive LTs where
  | nil | cons (t : LT) (ts : LTs)
end
mutual
inductive LS where
  | nev | exp (e : LE) | asg (t : LT) (e : LE) | asa (o : LE) (f : Nat) (e : LE) | asi (o i e : LE) | aug (i : Nat) (op : Operator) (e : LE)
  | ifs (c : LE) (a b : LSs) | fors (t : LT) (it : LI) (b : LSs) | whl (c : LE) (b : LSs) | ret (e : LE) | rtn
  | rais (c : Nat) (e : LE) | tryc (b : LSs) (c : Nat) (s : Option Nat) (h : LSs) | pas
inductive LSs where
  | nil | cons (s : LS) (ss : LSs)
end

abbrev St := List (Option D)
mutual
def LT.put : LT → D → St → Option St
  | .nm i, d, σ => some (σ.set i (some d))
  | .tp ts, .tup ds, σ => ts.puts ds σ
  | .tp ts, .lst ds, σ => ts.puts ds σ
  | .tp _, _, _ => none
def LTs.puts : LTs → List D → St → Option St
  | .nil, [], σ => some σ
  | .cons t ts, d :: ds, σ => match t.put d σ with
    | some σ' => ts.puts ds σ'
    | none => none
  | _, _, _ => none
end
def wipe (σ : St) : List Nat → St
  | [] => σ
  | v :: vs => (wipe σ vs).set v none

/-! ### operations -/
def lim : Nat := 16777216
/-- what a thing looked at holds: a list's or tuple's items -/
def items? (S : List O) : D → Option (List D)
  | .tup ds => some ds
  | .lst ds => some ds
  | .scr ds => some ds
  | .ref n => match S[n]? with
    | some (.lst ds) => some ds
    | _ => none
  | _ => none
def dict? (S : List O) : D → Option (List D × List D)
  | .dct ks vs => some (ks, vs)
  | .ref n => match S[n]? with
    | some (.dct ks vs) => some (ks, vs)
    | _ => none
  | _ => none
def ins? (S : List O) : D → Option (Nat × List Nat × List D)
  | .ins c fs vs => some (c, fs, vs)
  | .ref n => match S[n]? with
    | some (.ins c fs vs) => some (c, fs, vs)
    | _ => none
  | _ => none
def chars (s : Str) : List D := s.cps.toList.map fun c => .str ⟨#[c]⟩
/-- what is gone over by for -/
def walk? (S : List O) : D → Option (List D)
  | .str s => some (chars s)
  | d => items? S d
/-- a frozen look at lists and dicts -/
def look (S : List O) : D → D
  | .ref n => match S[n]? with
    | some (.lst ds) => .lst ds
    | some (.dct ks vs) => .dct ks vs
    | _ => .ref n
  | d => d

structure FnDef where
  ps : Nat
  n : Nat
  body : LSs
  dfl : List D := []
  tr : Bool := true
structure ClsDef where
  init : Option Nat := none
  frozen : Bool := true
  base : Option Nat := none
  isExc : Bool := false
structure Tab where
  fns : List (Nat × FnDef)
  cls : List (Nat × ClsDef)
  /-- the classes whose instances are plain -/
  inst : List Nat
  /-- (class, name) to a def -/
  meth : List ((Nat × Nat) × Nat)
  prop : List ((Nat × Nat) × Nat)
  /-- (class, name) of the fields -/
  flds : List (Nat × Nat)
  /-- names of the special methods -/
  nmLen : Nat
  nmGet : Nat
  nmIn : Nat
  nmEq : Nat
  nmAdd : Nat
  nmSub : Nat
  nmOr : Nat
  /-- the error classes that an except clause takes, by (class, the clause's) -/
  subc : List (Nat × Nat)
  /-- the errors that are made as values; the name of their field -/
  errs : List Nat := []
  nmVal : Nat := 0

abbrev Fn := Nat → List D → List O → R D
section
variable (T : Tab) (Φ : Fn)
def callM (c m : Nat) (self : D) (ds : List D) (S : List O) : R D := match T.meth.lookup (c, m) with
  | some f => Φ f (self :: ds) S
  | none => .bad
/-- a method of what is an instance -/
def ownD (m : Nat) (x : D) (ds : List D) (S : List O) : R D := match ins? S x with
  | some (c, _, _) => callM T Φ c m x ds S
  | none => .bad
/-- a value's truth -/
def truth (S : List O) : D → Option Bool
  | .non => some false
  | .bl b => some b
  | .int i => some (i != 0)
  | .str s => if s.length ≤ lim then some ((s.length : Int) != 0) else none
  | d => match items? S d with
    | some ds => some (!ds.isEmpty)
    | none => none
def mulOk (i j : Int) : Bool := decide ((-(2 ^ 64) < i ∧ i < 2 ^ 64) ∨ (-(2 ^ 64) < j ∧ j < 2 ^ 64))
def binD (op : Operator) (x y : D) (S : List O) : R D := match op, x, y with
  | .Add, .int i, .int j => .ok (.int (i + j)) S
  | .Sub, .int i, .int j => .ok (.int (i - j)) S
  | .Mult, .int i, .int j => if mulOk i j then .ok (.int (i * j)) S else .bad
  | .Mod, .int i, .int j => if 0 < j then .ok (.int (i % j)) S else .bad
  | .FloorDiv, .int i, .int j => if 0 < j ∧ j < 1073741824 then .ok (.int (i / j)) S else .bad
  | .Pow, .int i, .int j => if 1 ≤ j ∧ j ≤ 1000 ∧ 2 ≤ i ∧ i.natAbs < 2 ^ 256 then .ok (.int (i ^ j.toNat)) S else .bad
  | .Add, .str a, .str b => if a.length + b.length ≤ lim then .ok (.str (a ++ b)) S else .bad
  | .Mult, .str a, .int k => if 0 ≤ k ∧ k ≤ 100 ∧ a.length ≤ 1000 then .ok (.str (Txt.mul a k)) S else .bad
  | .Add, .tup a, .tup b => if a.length + b.length ≤ lim then .ok (.tup (a ++ b)) S else .bad
  | .Add, a, b => match look S a, look S b with
    | .lst xs, .lst ys => if xs.length + ys.length ≤ lim then .ok (.lst (xs ++ ys)) S else .bad
    | _, _ => ownD T Φ T.nmAdd a [b] S
  | .Sub, a, b => ownD T Φ T.nmSub a [b] S
  | .BitOr, a, b => ownD T Φ T.nmOr a [b] S
  | _, _, _ => .bad
mutual
/-- the script does not lie within -/
def D.notScr : D → Bool
  | .tup ds => notScrs ds
  | .lst ds => notScrs ds
  | .scr _ => false
  | _ => true
def notScrs : List D → Bool
  | [] => true
  | d :: ds => d.notScr && notScrs ds
end
def D.isNon : D → Bool
  | .non => true
  | _ => false
/-- a bool, or its contrary -/
def nbl (b : Bool) (r : D) (S : List O) : R D := match r with
  | .bl k => .ok (.bl (b ^^ k)) S
  | _ => .bad
@[simp] theorem nbl_f (k : Bool) (S : List O) : nbl false (.bl k) S = .ok (.bl k) S := by simp [nbl]
@[simp] theorem nbl_t (k : Bool) (S : List O) : nbl true (.bl k) S = .ok (.bl (!k)) S := by simp [nbl]
/-- x in ys -/
def inD (x y : D) (S : List O) : R D := match y with
  | .str z => match x with
    | .str w => .ok (.bl (!(Builtin.Str.occurrences z w 0 z.length 1).isEmpty)) S
    | _ => .bad
  | _ => match items? S y with
    | some ds => if x.py.isSome ∧ (pys ds).isSome ∧ flat2 x (.tup ds) ∧ x.notScr then .ok (.bl (ds.any fun d => d.eqv x)) S else .bad
    | none => match dict? S y with
      | some (ks, vs) => if okKey ks x then .ok (.bl (dget ks vs x).isSome) S else if okT ks x then .ok (.bl (dget ks vs x).isSome) S else .bad
      | none => ownD T Φ T.nmIn y [x] S
def eqD (x y : D) (S : List O) : R D := if x.py.isSome ∧ y.py.isSome ∧ flat2 x y ∧ y.notScr then .ok (.bl (x.eqv y)) S else .bad
def cmpD (op : CmpOp) (x y : D) (S : List O) : R D := match op with
  | .Eq => match look S x, look S y with
    | .dct ks _, .dct [] _ => if ks.all keyS then .ok (.bl (ks.isEmpty)) S else .bad
    | .ins c _ _, .ins c' _ _ => if c = c' then (ownD T Φ T.nmEq x [y] S).bind (nbl false) else .bad
    | x', y' => (eqD x' y' S).bind (nbl false)
  | .NotEq => (eqD (look S x) (look S y) S).bind (nbl true)
  | .In => (inD T Φ x y S).bind (nbl false)
  | .NotIn => (inD T Φ x y S).bind (nbl true)
  | .Is => match y with
    | .non => .ok (.bl x.isNon) S
    | .bl b => match x with
      | .bl c => .ok (.bl (c == b)) S
      | _ => .bad
    | _ => .bad
  | .IsNot => match y with
    | .non => .ok (.bl (!x.isNon)) S
    | .bl b => match x with
      | .bl c => .ok (.bl (c != b)) S
      | _ => .bad
    | _ => .bad
  | .Lt => match x, y with
    | .int i, .int j => .ok (.bl (decide (i < j))) S
    | _, _ => match x.lt y with
      | some b => .ok (.bl b) S
      | none => .bad
  | .LtE => match x, y with
    | .int i, .int j => .ok (.bl (decide (i ≤ j))) S
    | _, _ => .bad
  | .Gt => match x, y with
    | .int i, .int j => .ok (.bl (decide (j < i))) S
    | _, _ => .bad
  | .GtE => match x, y with
    | .int i, .int j => .ok (.bl (decide (j ≤ i))) S
    | _, _ => .bad
def idxD (x i : D) (S : List O) : R D := match x, i with
  | .str s, .int k => match L2.atI s.cps.toList k with
    | some c => if s.length ≤ lim then .ok (.str ⟨#[c]⟩) S else .bad
    | none => .bad
  | x, i => match items? S x, i with
    | some ds, .int k => match L2.atI ds k with
      | some d => .ok d S
      | none => .bad
    | some _, _ => .bad
    | none, i => match dict? S x with
      | some (ks, vs) => if okKey ks i then match dget ks vs i with
          | some v => .ok v S
          | none => .bad
        else if okT ks i then match dget ks vs i with
          | some v => .ok v S
          | none => .bad
        else .bad
      | none => ownD T Φ T.nmGet x [i] S
def cutL {α : Type} (xs : List α) (lo hi : Option Int) : List α := (xs.drop (HT.sIx xs.length 0 lo)).take (HT.sIx xs.length xs.length hi - HT.sIx xs.length 0 lo)
def slcD (x : D) (lo hi : Option Int) (S : List O) : R D := match x with
  | .str s => if s.length ≤ lim then .ok (.str (L2.cutS s lo hi)) S else .bad
  | .tup ds => .ok (.tup (cutL ds lo hi)) S
  | x => match look S x with
    | .lst ds => .ok (.lst (cutL ds lo hi)) S
    | _ => .bad
/-- what isinstance asks of a thing: a type or a class -/
inductive Kd where
  | non | ty (t : Ty) | cls (c : Nat) | exc (c : Nat) | verr
def kind (S : List O) (x : D) : Option Kd := match look S x with
  | .non => some .non
  | .bl _ => some (.ty .bool)
  | .int _ => some (.ty .int)
  | .str _ => some (.ty .str)
  | .tup _ => some (.ty .tuple)
  | .lst _ => some (.ty .list)
  | .scr _ => some (.ty .list)
  | .exc c _ => some (.exc c)
  | .set _ => some .verr
  | .dct ks _ => if ks.all keyS then some (.ty .dict) else none
  | _ => match ins? S x with
    | some (c, _, _) => some (.cls c)
    | none => none
def Tab.isa (T : Tab) : Kd → D → Option Bool
  | .non, .ty t => if t == .valueError then none else some false
  | .ty a, .ty b => if b == .valueError then none else some (a == b || (a == .bool && b == .int))
  | .cls c, .ty t => if t == .valueError then none else if T.inst.contains c then some false else none
  | .exc c, .ty t => if T.errs.contains c then some (t == .valueError) else none
  | .verr, .ty t => if T.errs.isEmpty then none else some (t == .valueError)
  | .non, .cls c => if T.inst.contains c || T.errs.contains c then some false else none
  | .ty t, .cls c => if T.inst.contains c || T.errs.contains c then some false else none
  | .verr, .cls c => if T.errs.contains c then some false else none
  | .cls c, .cls c' => if T.inst.contains c && (T.inst.contains c' || T.errs.contains c') then some (c == c') else none
  | .exc c, .cls c' => if T.errs.contains c && T.errs.contains c' then some (c == c' || T.subc.contains (c, c')) else none
  | _, _ => none
def isinst (S : List O) (x t : D) : R D := match kind S x with
  | some k => match T.isa k t with
    | some b => .ok (.bl b) S
    | none => .bad
  | none => .bad
def D.isBl : D → Bool
  | .bl _ => true
  | _ => false
def D.isTrue : D → Bool
  | .bl b => b
  | _ => false
/-- repr of plain data -/
def D.rep (d : D) : Option Str := match d.py with
  | some p => if p.showable ∧ p.hasDict = false ∧ p.shown.length ≤ lim ∧ p.depth ≤ 60 then some p.shown else none
  | none => none
/-- the same, also of a dict of one text and one integer -/
def D.rep1 : D → Option Str
  | .dct [.str k] [.int i] => if (PyData.dict [(.str k, .int i)]).showable ∧ (PyData.dict [(.str k, .int i)]).shown.length ≤ lim then some (PyData.dict [(.str k, .int i)]).shown else none
  | d => d.rep
theorem rep1_of {d : D} {t : Str} (h : d.rep = some t) : d.rep1 = some t := by
  unfold D.rep1
  split
  · cases h
  · exact h
/-- stable sorting of data that are alike -/
def D.le (a b : D) : Bool := match a.py, b.py with
  | some x, some y => !dataLt y x
  | _, _ => false
def D.ali (a b : D) : Bool := match a.py, b.py with
  | some x, some y => alike x y
  | _, _ => false
def sortOk (ds : List D) : Bool := (ds.all fun a => ds.all fun b => D.ali a b) && ds.all fun d => decide (d.dep ≤ 60)
def D.tup1 : D → Bool
  | .tup (_ :: _) => true
  | _ => false
def D.si : D → Bool
  | .str _ => true
  | .int _ => true
  | _ => false
def sortKind (ds : List D) : Bool := ds.all D.tup1 || ds.all D.si
/-- what list(x), tuple(x), sorted(x) go over -/
def seqs? (S : List O) (x : D) : Option (List D) := match items? S x with
  | some xs => some xs
  | none => match dict? S x with
    | some (ks, _) => if ks.all keyS then some ks else none
    | none => none
def biD (f : Bi) (ds : List D) (S : List O) : R D := match f, ds with
  | .len, [.str s] => if s.length ≤ lim then .ok (.int s.length) S else .bad
  | .len, [x] => match items? S x with
    | some xs => .ok (.int xs.length) S
    | none => match dict? S x with
      | some (ks, _) => if ks.all keyS then .ok (.int ks.length) S else if ks.all keyT ∧ ks.length ≤ lim then .ok (.int ks.length) S else .bad
      | none => (ownD T Φ T.nmLen x [] S).bind fun r S => match r with
          | .int i => if 0 ≤ i ∧ i ≤ lim then .ok (.int i) S else .bad
          | _ => .bad
  | .all, [x] => match items? S x with
    | some xs => if xs.all D.isBl then .ok (.bl (xs.all D.isTrue)) S else .bad
    | none => .bad
  | .any, [x] => match items? S x with
    | some xs => if xs.all D.isBl then .ok (.bl (xs.any D.isTrue)) S else .bad
    | none => .bad
  | .abs, [.int i] => .ok (.int (if i < 0 then -i else i)) S
  | .min, [.int i, .int j] => .ok (.int (if j < i then j else i)) S
  | .max, [.int i, .int j] => .ok (.int (if j > i then j else i)) S
  | .int, [.int i] => .ok (.int i) S
  | .int, [.bl b] => .ok (.int (if b then 1 else 0)) S
  | .isinstance, [x, t] => isinst T S x t
  | .valueError, [_] => .ok (.set []) S
  | .str, [.int i] => if i.natAbs.log2 < 1920 then .ok (.str (Str.ofString (toString i))) S else .bad
  | .tuple, [.tup xs] => .ok (.tup xs) S
  | .tuple, [x] => match seqs? S x with
    | some xs => .ok (.tup xs) S
    | none => .bad
  | .list, [x] => match seqs? S x with
    | some xs => .ok (.lst xs) S
    | none => .bad
  | .listM, [x] => match seqs? S x with
    | some xs => .ok (.ref S.length) (S ++ [.lst xs])
    | none => .bad
  | .sorted, [x] => match seqs? S x with
    | some xs => if sortOk xs ∧ sortKind xs then .ok (.lst (xs.mergeSort D.le)) S else .bad
    | none => .bad
  | .repr, [x] => match (look S x).rep1 with
    | some t => .ok (.str t) S
    | none => .bad
  | _, _ => .bad
def D.notRef (n : Nat) : D → Bool
  | .ref m => m != n
  | _ => true
def strs? : List D → Option (List Str)
  | [] => some []
  | .str s :: ds => (strs? ds).map (s :: ·)
  | _ => none
/-- texts parted at a sign, joined -/
def bmD (b : Bm) (x : D) (ds : List D) (S : List O) : R D := match b, x, ds with
  | .split, .str s, [.str t] => if (t.length == 0) = false ∧ s.length + 2 ≤ lim then .ok (.lst ((Txt.split s t).map .str)) S else .bad
  | .join, .str s, [y] => match items? S y with
    | some xs => match strs? xs with
      | some ts => if (ts.map (·.length)).sum + ts.length * s.length ≤ lim then .ok (.str (Txt.join s ts)) S else .bad
      | none => .bad
    | none => .bad
  | .append, .ref n, [y] => match S[n]? with
    | some (.lst xs) => if xs.length < lim then .ok .non (S.set n (.lst (xs ++ [y]))) else .bad
    | _ => .bad
  | .extend, .ref n, [y] => match S[n]?, look S y with
    | some (.lst xs), .lst ys => if xs.length + ys.length ≤ lim ∧ D.notRef n y then .ok .non (S.set n (.lst (xs ++ ys))) else .bad
    | _, _ => .bad
  | .pop, .ref n, [.int i] => match S[n]? with
    | some (.lst xs) => match L2.ixN xs.length i with
      | some j => match xs[j]? with
        | some d => .ok d (S.set n (.lst (xs.eraseIdx j)))
        | none => .bad
      | none => .bad
    | _ => .bad
  | .pop, .ref n, [] => match S[n]? with
    | some (.lst xs) => match xs[xs.length - 1]? with
      | some d => if xs = [] then .bad else .ok d (S.set n (.lst xs.dropLast))
      | none => .bad
    | _ => .bad
  | .index, .tup xs, [.str t] => match strs? xs with
    | some ts => if t ∈ ts then .ok (.int (ts.idxOf t : Nat)) S else .bad
    | none => .bad
  | .indexL, .lst xs, [y] => match pys xs, y.py with
    | some ps, some p => if SeqAt.shaped (.list ps) ∧ SeqAt.shaped p ∧ y.notScr then match xs.findIdx? (fun d => d.eqv y) with
        | some j => .ok (.int j) S
        | none => .bad
      else .bad
    | _, _ => .bad
  | .setdefault, .ref n, [k, y] => match S[n]? with
    | some (.dct ks vs) => if okKey ks k ∧ ks.length < lim then match dget ks vs k with
        | some v => .ok v S
        | none => .ok y (S.set n (.dct (dput ks vs k y).1 (dput ks vs k y).2))
      else if okT ks k ∧ ks.length < lim then match dget ks vs k with
        | some v => .ok v S
        | none => .ok y (S.set n (.dct (dput ks vs k y).1 (dput ks vs k y).2))
      else .bad
    | _ => .bad
  | .get, x, [k] => match dict? S x with
    | some (ks, vs) => if okKey ks k then .ok ((dget ks vs k).getD .non) S else if okT ks k then .ok ((dget ks vs k).getD .non) S else .bad
    | none => .bad
  | .update, .ref n, [y] => match S[n]?, dict? S y with
    | some (.dct ks vs), some (ls, ws) => if ks.all keyS ∧ ls.all keyS ∧ ks.length + ls.length ≤ lim ∧ D.notRef n y then
        .ok .non (S.set n (.dct (dputs ks vs ls ws).1 (dputs ks vs ls ws).2)) else .bad
    | _, _ => .bad
  | _, _, _ => .bad
/-- what a method call runs: an own def, or a built-in method -/
inductive MK where
  | own (f : Nat) | bm (b : Bm)
/-- the receiver is of the kind that has the method -/
def bmFit (S : List O) (x : D) : Bm → Bool
  | .append => match x with
    | .ref _ => match look S x with
      | .lst _ => true
      | _ => false
    | _ => false
  | .extend => match x with
    | .ref _ => match look S x with
      | .lst _ => true
      | _ => false
    | _ => false
  | .pop => match x with
    | .ref _ => match look S x with
      | .lst _ => true
      | _ => false
    | _ => false
  | .split => match x with
    | .str _ => true
    | _ => false
  | .join => match x with
    | .str _ => true
    | _ => false
  | .setdefault => match look S x with
    | .dct ks _ => ks.all keyS || ks.all keyT
    | _ => false
  | .get => match look S x with
    | .dct ks _ => ks.all keyS || ks.all keyT
    | _ => false
  | .update => match look S x with
    | .dct ks _ => ks.all keyS
    | _ => false
  | .index => match x with
    | .tup _ => true
    | _ => false
  | .indexL => match x with
    | .lst _ => true
    | _ => false
  | _ => false
/-- the method's like for a list -/
def bmOf : Bm → D → Bm
  | .index, .lst _ => .indexL
  | b, _ => b
def mtyp (x : D) (b : Option Bm) (m : Option Nat) (S : List O) : Option MK := match ins? S x with
  | some (c, fs, _) => match m with
    | some m => match T.meth.lookup (c, m) with
      | some f => if fs.contains m then none else some (.own f)
      | none => none
    | none => none
  | none => match b with
    | some b => if bmFit S x (bmOf b x) then some (.bm (bmOf b x)) else none
    | none => none
def mthK (k : MK) (x : D) (ds : List D) (S : List O) : R D := match k with
  | .own f => Φ f (x :: ds) S
  | .bm b => bmD b x ds S
def atrD (x : D) (f : Nat) (S : List O) : R D := match ins? S x with
  | some (c, fs, vs) => if T.inst.contains c then match T.prop.lookup (c, f) with
      | some g => match Φ g [x] S with
        | .ok d S' => .ok d S'
        | _ => .bad
      | none => if T.flds.contains (c, f) then match (fs.zip vs).lookup f with
          | some d => .ok d S
          | none => .bad
        else .bad
    else .bad
  | none => match x with
    | .exc c v => if T.errs.contains c = true ∧ f = T.nmVal then .ok v S else .bad
    | _ => .bad
/-- a field's store -/
def putf : List Nat → List D → Nat → D → List Nat × List D
  | f :: fs, v :: vs, g, x => if f = g then (f :: fs, x :: vs) else (f :: (putf fs vs g x).1, v :: (putf fs vs g x).2)
  | _, _, g, x => ([g], [x])
/-- references at k and above give way to what they hold -/
def frz (S : List O) (k : Nat) : Nat → D → D
  | 0, d => d
  | m + 1, d => if d.und k then d else match d with
    | .tup ds => .tup (ds.map (frz S k m))
    | .lst ds => .lst (ds.map (frz S k m))
    | .dct ks vs => .dct ks (vs.map (frz S k m))
    | .ins c fs vs => .ins c fs (vs.map (frz S k m))
    | .exc c v => .exc c (frz S k m v)
    | .ref n => match S[n]? with
      | some (.lst ds) => .lst (ds.map (frz S k m))
      | some (.dct ks vs) => .dct ks (vs.map (frz S k m))
      | some (.ins c fs vs) => .ins c fs (vs.map (frz S k m))
      | none => .ref n
    | d => d
open Classical in
/-- behind a call whose new things are let go -/
noncomputable def fin (S : List O) (d : D) (S' : List O) : R D :=
  if S.length ≤ S'.length ∧ (frz S' S.length 12 d).und S.length = true ∧ (S'.take S.length = S ∨ (S'.take S.length).all (O.und S.length) = true) then
    .ok (frz S' S.length 12 d) (S'.take S.length)
  else .bad
open Classical in
noncomputable def finE (S : List O) (d : D) (S' : List O) : R D :=
  if S.length ≤ S'.length ∧ (frz S' S.length 12 d).und S.length = true ∧ (S'.take S.length = S ∨ (S'.take S.length).all (O.und S.length) = true) then
    .err (frz S' S.length 12 d) (S'.take S.length)
  else .bad
noncomputable def newD (c : Nat) (ds : List D) (S : List O) : R D := match T.cls.lookup c with
  | some C => match C.init with
    | some f => (Φ f (.ref S.length :: ds) (S ++ [.ins c [] []])).bind fun r S' => match r with
      | .non => if C.frozen then fin S (.ref S.length) S' else .ok (.ref S.length) S'
      | _ => .bad
    | none => if C.isExc = true ∧ T.errs.contains c = true then match ds with
        | [v] => .ok (.exc c v) S
        | _ => .bad
      else .bad
  | none => .bad

/-! ### loops over what is given -/
def map1 (f : D → List O → R (List D)) (keep : List O → Prop) [DecidablePred keep] : List D → List O → R (List D)
  | [], S => .ok [] S
  | d :: ds, S => match f d S with
    | .ok x S1 => if keep S1 then match map1 f keep ds S1 with
        | .ok xs S2 => .ok (x ++ xs) S2
        | _ => .bad
      else .bad
    | _ => .bad
def mapP (f : D → List O → R (List (D × D))) (keep : List O → Prop) [DecidablePred keep] : List D → List O → List D → List D → R (List D × List D)
  | [], S, ks, vs => .ok (ks, vs) S
  | d :: ds, S, ks, vs => match f d S with
    | .ok [] S1 => if keep S1 then mapP f keep ds S1 ks vs else .bad
    | .ok [x] S1 => if keep S1 ∧ (okKey ks x.1 = true ∨ okT ks x.1 = true) ∧ ks.length < lim then mapP f keep ds S1 (dput ks vs x.1 x.2).1 (dput ks vs x.1 x.2).2 else .bad
    | _ => .bad
inductive Fl where
  | nx (σ : St) | rt (d : D) | bk (σ : St) | ct (σ : St) | er (e : D) (σ : St)
/-- within a statement: an error is told with the names as they stand -/
@[inline] def R.bs {α : Type} (x : R α) (σ : St) (f : α → List O → R Fl) : R Fl := match x with
  | .ok a S => f a S
  | .err e S => .ok (.er e σ) S
  | .bad => .bad
@[simp] theorem R.bs_ok {α : Type} (a : α) (S : List O) (σ : St) (f : α → List O → R Fl) : R.bs (.ok a S) σ f = f a S := rfl
@[simp] theorem R.bs_err {α : Type} (e : D) (S : List O) (σ : St) (f : α → List O → R Fl) : R.bs (.err e S : R α) σ f = .ok (.er e σ) S := rfl
@[simp] theorem R.bs_bad {α : Type} (σ : St) (f : α → List O → R Fl) : R.bs (.bad : R α) σ f = .bad := rfl
def loopF (t : LT) (body : St → List O → R Fl) (keep : List O → Prop) [DecidablePred keep] : List D → St → List O → R Fl
  | [], σ, S => .ok (.nx σ) S
  | d :: ds, σ, S => match t.put d σ with
    | none => .bad
    | some σ' => match body σ' S with
      | .ok (.nx σ2) S2 => if keep S2 then loopF t body keep ds σ2 S2 else .bad
      | .ok (.ct σ2) S2 => if keep S2 then loopF t body keep ds σ2 S2 else .bad
      | .ok (.bk σ2) S2 => .ok (.nx σ2) S2
      | .ok (.rt d) S2 => .ok (.rt d) S2
      | .ok (.er e σ2) S2 => .ok (.er e σ2) S2
      | _ => .bad
def loopW (c : St → List O → R Bool) (body : St → List O → R Fl) : Nat → St → List O → R Fl
  | 0, _, _ => .bad
  | n + 1, σ, S => (c σ S).bs σ fun k S1 => match k with
    | true => match body σ S1 with
      | .ok (.nx σ2) S2 => loopW c body n σ2 S2
      | .ok (.ct σ2) S2 => loopW c body n σ2 S2
      | .ok (.bk σ2) S2 => .ok (.nx σ2) S2
      | .ok (.rt d) S2 => .ok (.rt d) S2
      | .ok (.er e σ2) S2 => .ok (.er e σ2) S2
      | _ => .bad
    | false => .ok (.nx σ) S1
def rng (a b : Int) : List D := (List.range (b - a).toNat).map fun i => .int (a + (i : Nat))
def rngDn (a b : Int) : List D := (List.range (a - b).toNat).map fun i => .int (a - (i : Nat))
def rngD : List D → Option (List D)
  | [.int b] => if -(2 ^ 62) ≤ b ∧ b < 2 ^ 62 then some (rng 0 b) else none
  | [.int a, .int b] => if (-(2 ^ 62) ≤ a ∧ a < 2 ^ 62) ∧ -(2 ^ 62) ≤ b ∧ b < 2 ^ 62 then some (rng a b) else none
  | [.int a, .int b, .int c] => if c = -1 ∧ (-(2 ^ 62) ≤ a ∧ a < 2 ^ 62) ∧ -(2 ^ 62) ≤ b ∧ b < 2 ^ 62 then some (rngDn a b) else none
  | _ => none
def zip2 : List D → List D → List D
  | x :: xs, y :: ys => .tup [x, y] :: zip2 xs ys
  | _, _ => []
def zip3 : List D → List D → List D → List D
  | x :: xs, y :: ys, z :: zs => .tup [x, y, z] :: zip3 xs ys zs
  | _, _, _ => []
def zipD (S : List O) : List D → Option (List D)
  | [a, b] => match items? S a, items? S b with
    | some xs, some ys => some (zip2 xs ys)
    | _, _ => none
  | [a, b, c] => match items? S a, items? S b, items? S c with
    | some xs, some ys, some zs => some (zip3 xs ys zs)
    | _, _, _ => none
  | _ => none
def enmL : Nat → List D → List D
  | _, [] => []
  | i, d :: ds => .tup [.int i, d] :: enmL (i + 1) ds
def D.refs : D → List Nat
  | .ref n => [n]
  | _ => []
/-- what is walked stays as it is -/
def Keeps (S : List O) (ns : List Nat) (S' : List O) : Prop := ∀ n ∈ ns, S'[n]? = S[n]?
/-- list(..), dict(..) of what is walked -/
def biiD (f : Bi) (ds : List D) (S : List O) : R D := if ds.length ≤ lim then match f with
  | .list => .ok (.lst ds) S
  | .listM => .ok (.ref S.length) (S ++ [.lst ds])
  | .tuple => .ok (.tup ds) S
  | .dict => match dictOf ds [] [] with
    | some (ks, vs) => .ok (.dct ks vs) S
    | none => .bad
  | .dictM => match dictOf ds [] [] with
    | some (ks, vs) => .ok (.ref S.length) (S ++ [.dct ks vs])
    | none => .bad
  | _ => .bad
  else .bad
where dictOf : List D → List D → List D → Option (List D × List D)
  | [], ks, vs => some (ks, vs)
  | .tup [k, v] :: r, ks, vs => if okKey ks k then dictOf r (dput ks vs k v).1 (dput ks vs k v).2 else none
  | _, _, _ => none
end

/-! ### the evaluator -/
section
variable (T : Tab) (Φ : Fn) (W : Nat)
open Classical in
mutual
noncomputable def ev : LE → St → List O → R D
  | .nev, _, _ => .bad
  | .var i, σ, S => match σ[i]? with
    | some (some d) => .ok d S
    | _ => .bad
  | .cst d, _, S => .ok d S
  | .bin op a b, σ, S => (ev a σ S).bind fun x S => (ev b σ S).bind fun y S => binD T Φ op x y S
  | .neg a, σ, S => (ev a σ S).bind fun x S => match x with
    | .int i => .ok (.int (-i)) S
    | _ => .bad
  | .cmp op a b, σ, S => (ev a σ S).bind fun x S => (ev b σ S).bind fun y S => cmpD T Φ op x y S
  | .chn o1 o2 a b c, σ, S => (ev a σ S).bind fun x S => (ev b σ S).bind fun y S => (cmpD T Φ o1 x y S).bind fun r S => match r with
    | .bl true => (ev c σ S).bind fun z S => cmpD T Φ o2 y z S
    | .bl false => .ok (.bl false) S
    | _ => .bad
  | .and a b, σ, S => (ev a σ S).bind fun x S => match truth S x with
    | some true => ev b σ S
    | some false => .ok x S
    | none => .bad
  | .or a b, σ, S => (ev a σ S).bind fun x S => match truth S x with
    | some true => .ok x S
    | some false => ev b σ S
    | none => .bad
  | .not a, σ, S => (ev a σ S).bind fun x S => match truth S x with
    | some k => .ok (.bl (!k)) S
    | none => .bad
  | .ite c a b, σ, S => (ev c σ S).bind fun x S => match truth S x with
    | some true => ev a σ S
    | some false => ev b σ S
    | none => .bad
  | .call f es, σ, S => (evs es σ S).bind fun ds S => Φ f ds S
  | .new c es, σ, S => (evs es σ S).bind fun ds S => newD T Φ c ds S
  | .bi f es, σ, S => (evs es σ S).bind fun ds S => biD T Φ f ds S
  | .bii f it, σ, S => (evI it σ S).bind fun r S => biiD f r.1 S
  | .mth o b m es, σ, S => (ev o σ S).bind fun x S => match mtyp T x b m S with
    | some k => (evs es σ S).bind fun ds S => mthK Φ k x ds S
    | none => .bad
  | .atr o f, σ, S => (ev o σ S).bind fun x S => atrD T Φ x f S
  | .idx a i, σ, S => (ev a σ S).bind fun x S => (ev i σ S).bind fun y S => idxD T Φ x y S
  | .slc a lo hi none, σ, S => (ev a σ S).bind fun x S => (evO lo σ S).bind fun l S => (evO hi σ S).bind fun h S => slcD x l h S
  | .slc _ _ _ (some _), _, _ => .bad
  | .tup es, σ, S => (evs es σ S).bind fun ds S => if ds.length ≤ lim then .ok (.tup ds) S else .bad
  | .lst mu es, σ, S => (evs es σ S).bind fun ds S => if ds.length ≤ lim then if mu then .ok (.ref S.length) (S ++ [.lst ds]) else .ok (.lst ds) S else .bad
  | .dct mu ks vs, σ, S => (evs ks σ S).bind fun kd S => (evs vs σ S).bind fun vd S => if kd.all keyS ∧ kd.length = vd.length then
      if mu then .ok (.ref S.length) (S ++ [.dct (dputs [] [] kd vd).1 (dputs [] [] kd vd).2]) else .ok (.dct (dputs [] [] kd vd).1 (dputs [] [] kd vd).2) S else .bad
  | .lc mu e t it ifs own, σ, S => (evI it σ S).bind fun r S =>
    match map1 (fun d S => match t.put d (wipe σ own) with
        | none => .bad
        | some σ' => (evT ifs σ' S).bind fun b S => if b then (ev e σ' S).bind fun x S => .ok [x] S else .ok [] S) (Keeps S r.2) r.1 S with
    | .ok xs S => if xs.length ≤ lim then if mu then .ok (.ref S.length) (S ++ [.lst xs]) else .ok (.lst xs) S else .bad
    | _ => .bad
  | .lc2 mu e t it ifs t2 it2 ifs2 own, σ, S => (evI it σ S).bind fun r S =>
    match map1 (fun d S => match t.put d (wipe σ own) with
        | none => .bad
        | some σ' => (evT ifs σ' S).bind fun b S => if b then (evI it2 σ' S).bind fun r2 S => map1 (fun d2 S => match t2.put d2 σ' with
            | none => .bad
            | some σ2 => (evT ifs2 σ2 S).bind fun b S => if b then (ev e σ2 S).bind fun x S => .ok [x] S else .ok [] S) (Keeps S r2.2) r2.1 S else .ok [] S) (Keeps S r.2) r.1 S with
    | .ok xs S => if xs.length ≤ lim then if mu then .ok (.ref S.length) (S ++ [.lst xs]) else .ok (.lst xs) S else .bad
    | _ => .bad
  | .dc mu k v t it ifs own, σ, S => (evI it σ S).bind fun r S =>
    match mapP (fun d S => match t.put d (wipe σ own) with
        | none => .bad
        | some σ' => (evT ifs σ' S).bind fun b S => if b then (ev k σ' S).bind fun x S => (ev v σ' S).bind fun y S => .ok [(x, y)] S else .ok [] S) (Keeps S r.2) r.1 S [] [] with
    | .ok p S => if mu then .ok (.ref S.length) (S ++ [.dct p.1 p.2]) else .ok (.dct p.1 p.2) S
    | _ => .bad
noncomputable def evs : LEs → St → List O → R (List D)
  | .nil, _, S => .ok [] S
  | .cons e es, σ, S => (ev e σ S).bind fun x S => (evs es σ S).bind fun xs S => .ok (x :: xs) S
  | .star e es, σ, S => (ev e σ S).bind fun x S => match items? S x with
    | some ds => (evs es σ S).bind fun xs S => .ok (ds ++ xs) S
    | none => .bad
/-- a slice's end -/
noncomputable def evO : LO → St → List O → R (Option Int)
  | .no, _, S => .ok none S
  | .some e, σ, S => (ev e σ S).bind fun x S => match x with
    | .int i => .ok (some i) S
    | _ => .bad
/-- a comprehension's test -/
noncomputable def evT : LO → St → List O → R Bool
  | .no, _, S => .ok true S
  | .some e, σ, S => (ev e σ S).bind fun x S => match truth S x with
    | some k => .ok k S
    | none => .bad
/-- the items, and the places that must stay -/
noncomputable def evI : LI → St → List O → R (List D × List Nat)
  | .nev, _, _ => .bad
  | .val e, σ, S => (ev e σ S).bind fun x S => match walk? S x with
    | some ds => .ok (ds, x.refs) S
    | none => .bad
  | .rng es, σ, S => (evs es σ S).bind fun ds S => match rngD ds with
    | some xs => .ok (xs, []) S
    | none => .bad
  | .zip es, σ, S => (evs es σ S).bind fun ds S => match zipD S ds with
    | some xs => .ok (xs, ds.flatMap D.refs) S
    | none => .bad
  | .enm e, σ, S => (ev e σ S).bind fun x S => match items? S x with
    | some xs => .ok (enmL 0 xs, x.refs) S
    | none => .bad
  | .items e, σ, S => (ev e σ S).bind fun x S => match dict? S x with
    | some (ks, vs) => .ok (zip2 ks vs, x.refs) S
    | none => .bad
end
open Classical in
mutual
noncomputable def ex : LS → St → List O → R Fl
  | .nev, _, _ => .bad
  | .exp e, σ, S => (ev T Φ e σ S).bs σ fun _ S => .ok (.nx σ) S
  | .asg t e, σ, S => (ev T Φ e σ S).bs σ fun x S => match t.put x σ with
    | some σ' => .ok (.nx σ') S
    | none => .bad
  | .asa o f e, σ, S => (ev T Φ e σ S).bs σ fun x S => (ev T Φ o σ S).bs σ fun y S => match y with
    | .ref n => match S[n]? with
      | some (.ins c fs vs) => if fs.length < 900 ∧ T.inst.contains c = true ∧ T.flds.contains (c, f) = true then .ok (.nx σ) (S.set n (.ins c (putf fs vs f x).1 (putf fs vs f x).2)) else .bad
      | _ => .bad
    | _ => .bad
  | .asi o i e, σ, S => (ev T Φ e σ S).bs σ fun x S => (ev T Φ o σ S).bs σ fun y S => (ev T Φ i σ S).bs σ fun k S => match y with
    | .ref n => match S[n]?, k with
      | some (.lst ds), .int i => match L2.ixN ds.length i with
        | some j => .ok (.nx σ) (S.set n (.lst (ds.set j x)))
        | none => .bad
      | some (.dct ks vs), k => if (okKey ks k = true ∨ okT ks k = true) ∧ ks.length < lim then .ok (.nx σ) (S.set n (.dct (dput ks vs k x).1 (dput ks vs k x).2)) else .bad
      | _, _ => .bad
    | _ => .bad
  | .aug i op e, σ, S => match σ[i]? with
    | some (some (.int a)) => (ev T Φ e σ S).bs σ fun y S => match op, y with
      | .Add, .int b => .ok (.nx (σ.set i (some (.int (a + b))))) S
      | .Sub, .int b => .ok (.nx (σ.set i (some (.int (a - b))))) S
      | _, _ => .bad
    | _ => .bad
  | .ifs c a b, σ, S => (ev T Φ c σ S).bs σ fun x S => match truth S x with
    | some true => exs a σ S
    | some false => exs b σ S
    | none => .bad
  | .fors t it b, σ, S => (evI T Φ it σ S).bs σ fun r S => loopF t (fun σ S => exs b σ S) (Keeps S r.2) r.1 σ S
  | .whl c b, σ, S => loopW (fun σ S => (ev T Φ c σ S).bind fun x S => match truth S x with
      | some k => .ok k S
      | none => .bad) (fun σ S => exs b σ S) W σ S
  | .ret e, σ, S => (ev T Φ e σ S).bs σ fun x S => .ok (.rt x) S
  | .rtn, _, S => .ok (.rt .non) S
  | .rais c e, σ, S => (ev T Φ e σ S).bs σ fun x S => .ok (.er (.exc c x) σ) S
  | .tryc b c s h, σ, S => match exs b σ S with
    | .ok (.er (.exc c' v) σ1) S' => if c' == c || T.subc.contains (c', c) then match s with
        | some i => match exs h (σ1.set i (some (.exc c' v))) S' with
          | .ok (.nx σ') S2 => .ok (.nx (σ'.set i none)) S2
          | r => r
        | none => exs h σ1 S'
      else .ok (.er (.exc c' v) σ1) S'
    | r => r
  | .pas, σ, S => .ok (.nx σ) S
noncomputable def exs : LSs → St → List O → R Fl
  | .nil, σ, S => .ok (.nx σ) S
  | .cons s ss, σ, S => match ex s σ S with
    | .ok (.nx σ') S' => exs ss σ' S'
    | r => r
end
end
/-- a call of the def f, so deep at most -/
noncomputable def Phi (T : Tab) (W : Nat) : Nat → Fn
  | 0, _, _, _ => .bad
  | n + 1, f, ds, S => match T.fns.lookup f with
    | none => .bad
    | some F => if ds.length ≤ F.ps ∧ F.ps ≤ ds.length + F.dfl.length then
        let args := ds ++ F.dfl.drop (F.dfl.length - (F.ps - ds.length))
        match exs T (Phi T W n) W F.body (args.map some ++ List.replicate (F.n - args.length) none) S with
        | .ok (.rt d) S' => if F.tr then fin S d S' else .ok d S'
        | .ok (.nx _) S' => if F.tr then fin S .non S' else .ok .non S'
        | .ok (.er e _) S' => finE S e S'
        | _ => .bad
      else .bad
end Z
end

section
set_option Elab.async false
set_option linter.all false
set_option maxRecDepth 100000
set_option maxHeartbeats 4000000
/-! Z: an own exception's __init__ over ValueError: super().__init__(value); self.value = value. -/
namespace Z
open PySem PySem.Spec PySem.Calls PyProof.Rows L2

/-- the body of __init__ -/
def iniBody (p : Nat → Pos) : List Stmt :=
  [.Expr (.Call (.Attribute (.Call (.Name "super" (p 0)) [] [] (p 1)) "__init__" (p 2)) [.Name "value" (p 3)] [] (p 4)) (p 5), .Assign [.Attribute (.Name "self" (p 6)) "value" (p 7)] (.Name "value" (p 8)) (p 9)]
/-- what is written of the __init__ at fI, of the class at D -/
structure IniD (P : Program) (K : PySem.W.Frag) (fI D : Addr) where
  name : Str
  qual : Str
  params : Arguments
  p : Nat → Pos
  scope : Scope
  dV : Value
  kV : Value
  doc : Value
  pm : Value
  an : Option Addr
  cda : Addr
  cc : Addr
  ct : Value
  oc : Value
  od : Option Addr
  osl : Array (Option Value)
  lk : K.lookup fI = some ⟨oc, od, .func (PySem.W.ksFn name qual params (iniBody p) scope dV kV doc pm an (.ref cda) ct cc), osl⟩
  code : PySem.W.codeIn K (.ref cda) qual = true
  ccl : Value
  cdd : Option Addr
  vs : Array Value
  ccs : Array (Option Value)
  file : Str
  tf : Tok
  codeO : K.lookup cda = some ⟨ccl, cdd, .fields vs, ccs⟩
  vs2 : vs[2]? = some (.str file tf)
  fl : ((P.main.file : Str) == file) = true
  cl : Value
  cld : Option Addr
  csl : Array (Option Value)
  cellO : K.lookup cc = some ⟨cl, cld, .cell (some (.ref D)), csl⟩
  ar : Arg
  hp : (params.posonlyargs ++ params.args).head? = some ar
  har : ar.arg = "self"
  sS : scope.names.lookup ("super" : Str) = some .globalImplicit
  hl : ((p 2).endLine == (p 4).line) = true
  sC : scope.names.lookup ("__class__" : Str) = some .free
  sF : scope.names.lookup ("self" : Str) = some .local
  sV : scope.names.lookup ("value" : Str) = some .local
  sN : ∀ x ∈ scope.names, x.2 ≠ .cell
  sR : ∀ x ∈ scope.names, x.2 = .free → x.1 = "__class__"
  kind : scope.kind = .function
  co : scope.isCoroutine = false
  gen : scope.isGenerator = false
  top : (P.main.scope.names.lookup ("super" : Str)).isSome = false
  cdD : ClassData
  clsD : PySem.W.clsIn K D = some cdD
  any : PySem.W.nsIn K cStatics "thirdparty.any" = some none
/-- what is written of a class of errors whose __init__ that is -/
structure IniC (K : PySem.W.Frag) (D C : Addr) : Prop where
  oex : OexC K C
  sub : PySem.W.mroIn K C (.ref D) = some true
  sup : PySem.W.ks_superIn K C D "__init__" = some (some (.builtin "ValueError.__init__"))
  ve : PySem.W.subIn K (.ref C) (.type "ValueError") = some true
  val : PySem.W.findIn K (.ref C) "value" = some none
abbrev iniEnv (qual : Str) (scope : Scope) (L fI cda cc : Addr) : Env := PySem.W.ksEnv qual scope L fI (.ref cda) cc
def iniCx (P : Program) (w : World) (K : PySem.W.Frag) (mg : Str → Option Value) (base : Heap) (qual : Str) (scope : Scope) (fI cda cc : Addr) (A : Around) (outer : List Env) (s : Shared) (H : Hp) (E : XK) : Cx where
  prog := P
  w := w
  K := K
  mg := mg
  base := base
  A := A.deeper (iniEnv qual scope s.heap.objs.size fI cda cc)
  N := ["self", "value"]
  s_0 := s
  H_0 := H
  env := iniEnv qual scope s.heap.objs.size fI cda cc
  outer := outer
  stack := iniEnv qual scope s.heap.objs.size fI cda cc :: outer
  ex := []
  fn := fun _ => false
  calm := true
  pn := []
  xe := fun e s' => wpAny (model P w) (A.deeper (iniEnv qual scope s.heap.objs.size fI cda cc)) (leaving (iniEnv qual scope s.heap.objs.size fI cda cc) e) (fun _ s'' => L2.CX P w outer H s E e s'') (fun e' s'' => L2.CX P w outer H s E e' s'') s'
theorem mcallAt {M : Model} {A : Around} {c : Code} {env : Env} {o : Expr} {m : Str} {apos pos : Pos} {args : List Expr} {Q : Value → Shared → Prop} {E : Value → Shared → Prop} {s : Shared}
    (hform : methodCallForm (args.length + ([] : List Keyword).length) (backTo pos (starEach args env)) (backToKw pos (keywordEach [] env)) = true) (hline : (apos.endLine == pos.line) = true)
    (h : ∀ pl, PySem.wpAt M A c (attributeBase o m env (eval o env)) (fun ov s₁ => wpAny M A (getMethod ov m pl) (fun fx s₂ => wpAny M A (callWith pos fx.1 fx.2 (backTo pos (starEach args env)) []) Q E s₂) E s₁) E s) :
    PySem.wpAt M A c (eval (.Call (.Attribute o m apos) args [] pos) env) Q E s := by
  rw [arm_eval_Call]
  have hpos : methodCallPos true o env apos pos = pure pos := by unfold methodCallPos; simp [hline]
  refine PySem.wpAt_bind (PySem.wpAt_mono (h (do return (← importBound o env).getD true)) (fun ov s₁ h₁ => ?_) fun _ _ e => e)
  refine PySem.wpAt_of_wpAny (wpAny_bind (wpAny_standAt ?_))
  unfold methodCall
  rw [hform]
  refine wpAny_bind (wpAny_holding (wpAny_mono (show wpAny _ _ (calleeOf true o env ov m) _ _ _ from h₁) (fun fx s₂ h₂ => ?_) fun _ _ e => e))
  exact wpAny_bind (wpAny_of_eq hpos h₂)
section
variable {P : Program} {w : World} {K : PySem.W.Frag} {mg : Str → Option Value} {base : Heap} {fI D : Addr}
theorem ini_start (F : IniD P K fI D) {A : Around} {outer : List Env} {E : XK} {s : Shared} {H : Hp} {h₁ : Heap} {tk : Nat} {x v : V} {ux u : Value} (e0 : Env0 P w K mg base A outer s H) (hd : A.handled = none) (rx : RelV x ux) (rv : RelV v u)
    (hns : h₁.Ns s.heap.objs.size fun y => ([("self", ux), ("value", u)] : List (Str × Value)).reverse.lookup y) (kp : ∀ b o, s.heap.get? b = some o → h₁.get? b = some o) :
    Inv (iniCx P w K mg base F.qual F.scope fI F.cda F.cc A outer s H E) [] [some x, some v] H { s with heap := h₁, toks := tk } := by
  have KB : K.In base := e0.mod.kin
  have noA : ∀ b : Addr, b ∉ (iniCx P w K mg base F.qual F.scope fI F.cda F.cc A outer s H E).ex := fun b z => absurd (show b ∈ ([] : List Addr) from z) (by simp)
  have cl : ∀ {y : Str} {c : Addr}, ([("__class__", F.cc)] : List (Str × Addr)).lookup y = some c → y = "__class__" ∧ c = F.cc := fun {y c} e => by
    have m := PySem.mem_of_lookup e
    simp only [List.mem_singleton, Prod.mk.injEq] at m
    exact m
  have cK := e0.bs _ _ (KB _ _ F.cellO)
  refine ⟨⟨e0.mod, F.kind, rfl, rfl, Nat.le_refl _, fun y z c e1 e2 => (cl e1).1.trans (cl e2).1.symm, fun y hy => ?_, fun y c z _ => ?_, fun _ => hd, Around.frames_deeper e0.frames, .inr ⟨rfl, rfl⟩, fun b z => absurd z (noA b), e0.bs, e0.bsz, fun b _ _ => noA b,
      fun b z => absurd z (noA b), e0.funs, e0.frf⟩,
    rfl, e0.bare, Un.kept kp, ⟨_, hns, fun i y v' e1 e2 e3 => ?_⟩, fun y c e => ?_, e0.hok.fresh (Nat.le_refl _), fun y c e => ?_, fun q hq => absurd (show q ∈ ([] : List (Addr × Obj)) ++ [] from hq) (by simp), e0.hok.kept kp, rfl⟩
  · have hy : F.scope.names.lookup y = some .cell ∨ F.scope.names.lookup y = some .free := hy
    rcases hy with hy | hy
    · exact absurd rfl (F.sN _ (PySem.mem_of_lookup hy))
    · have : y = "__class__" := F.sR _ (PySem.mem_of_lookup hy) rfl
      subst this
      exact ⟨F.cc, by show ([("__class__", F.cc)] : List (Str × Addr)).lookup ("__class__" : Str) = some F.cc; rfl⟩
  · have z : false = true := z
    cases z
  · have e1 : (["self", "value"] : List Str)[i]? = some y := e1
    match i, e1, e2 with
    | 0, e1, e2 =>
      cases e1
      cases e2
      exact ⟨ux, rx, .inl ⟨F.sF, rfl⟩⟩
    | 1, e1, e2 =>
      cases e1
      cases e2
      exact ⟨u, rv, .inl ⟨F.sV, rfl⟩⟩
    | i + 2, e1, _ => simp at e1
  · obtain ⟨_, rfl⟩ := cl e
    exact ⟨_, _, kp _ _ cK.1, rfl⟩
  · obtain ⟨_, rfl⟩ := cl e
    exact cK.2
/-- the promise of that __init__ -/
def iniSp (K : PySem.W.Frag) (D : Addr) : Sp := fun vs H Q E => ∃ (a C : Addr) (v : V), vs = [.ref a, v] ∧ IniC K D C ∧ H a = some (exo a C none) ∧ ∀ d, H d = none → d ≠ a → Q .non (upd (upd H d (exd d [("value", v)])) a (exo a C (some d)))

theorem ini_fn (F : IniD P K fI D) (hm : mg ("super" : Str) = none) {k : Nat} : FnOk P w K mg base (L2.CX P w) (k + 1) fI (PySem.W.ksFn F.name F.qual F.params (iniBody F.p) F.scope F.dV F.kV F.doc F.pm F.an (.ref F.cda) F.ct F.cc) ["self", "value"] (iniSp K D) := by
  refine ⟨fun vs H Q E h => ?_, fun A outer s H args us vs Q E hr e0 hb rv h => ?_⟩
  · obtain ⟨a, C, v, rfl, _⟩ := h
    rfl
  obtain ⟨a, C, v, rfl, T, ea, q⟩ := h
  obtain ⟨ux, u, rfl, rx, ru⟩ : ∃ ux u, us = [ux, u] ∧ RelV (.ref a) ux ∧ RelV v u := by
    cases rv with
    | cons r1 rv =>
      cases rv with
      | cons r2 rv =>
        cases rv
        exact ⟨_, _, rfl, r1, r2⟩
  obtain rfl : ux = Value.ref a := rx
  have KX : K.In s.heap := e0.mod.kin.keeps fun b o e => (e0.bs b o e).1
  have lim : s.heap.NoLimit := e0.mod.nolimit.keeps fun b o e => (e0.bs b o e).1
  refine ks_codeAny_call_defAt (binds := [("self", .ref a), ("value", u)]) hr.depth (KX _ _ F.lk) rfl lim (PySem.W.codeRec_of KX F.code) rfl hb F.sN (fun y hy => ?_) (fun h₁ hns kp => ?_) F.co F.gen F.kind
  · simp only [List.mem_cons, List.not_mem_nil, or_false] at hy
    rcases hy with rfl | rfl
    · exact F.sF
    · exact F.sV
  have I : Inv (iniCx P w K mg base F.qual F.scope fI F.cda F.cc A outer s H E) [] [some (.ref a), some v] H { s with heap := h₁, toks := s.toks + 2 } := ini_start F e0 hr.hd (x := .ref a) rfl ru hns kp
  show PySem.wpAt (model P w) (A.deeper (iniEnv F.qual F.scope s.heap.objs.size fI F.cda F.cc)) (.func (iniBody F.p) (iniEnv F.qual F.scope s.heap.objs.size fI F.cda F.cc)) (execs (iniBody F.p) (iniEnv F.qual F.scope s.heap.objs.size fI F.cda F.cc)) _ _ _
  have K1 : K.In h₁ := I.kIn
  obtain ⟨nm, q0, N, bs, bm, sn, sub, ab, col, dd, k0, k1, k2, k3, k5, hC, hbm⟩ := T.oex.cls
  have hcl : PySem.W.clsIn K C = some { name := nm, bases := bs, mro := .ref C :: bm, ns := N, qualname := q0, hasDict := true, slotNames := sn, subclasses := sub, abstract := ab, collection := col, hasDel := false } := by unfold PySem.W.clsIn; rw [hC] <;> rfl
  obtain ⟨t1, ho⟩ := exo_at I.hok ea
  obtain ⟨oD, hD1, hD2⟩ : ∃ oD, h₁.get? D = some oD ∧ oD.data = .cls F.cdD := by
    have hD := F.clsD
    unfold PySem.W.clsIn at hD
    split at hD
    · rename_i c d cd' sl ho
      cases hD
      exact ⟨_, K1 _ _ ho, rfl⟩
    · cases hD
  obtain ⟨mb, hb1, hb2⟩ := I.mod.blt
  have J0 : PySem.W.InstAt h₁ a { cls := .ref C, dict := none, data := .fields #[.ref t1, .none, .none, .none, .bool false, .none] } C none := ⟨ho, rfl, rfl, trivial⟩
  have hi : interactive (iniEnv F.qual F.scope s.heap.objs.size fI F.cda F.cc) = false := by
    show (F.scope.kind == ScopeKind.module && _) = false
    rw [F.kind]
    rfl
  refine ks_wpAt_execs_cons (ks_wpAt_Expr_any (mcallAt (by rfl) F.hl fun pl => ?_) hi)
  refine ks_wpAt_super_base (f := fI) (cc := F.cda) (ar := F.ar) F.sS F.sC (by decide) rfl (K1 _ _ F.lk) rfl F.hp rfl (K1 _ _ F.codeO) rfl F.vs2 F.fl F.top ?_
  refine PySem.W.ks_loadName_global F.kind F.sS (loadGlobal_builtin (I.mod.glob.keeps I.bk) hm (hb1.keeps I.bk) ((hb2 _ (by decide)).trans (show bootBuiltins "super" = some (.type "super") by decide +kernel)) ⟨rfl, ?_⟩)
  refine wpAny_loadName_free F.kind F.sC rfl ⟨_, K1 _ _ F.cellO, rfl⟩ ?_
  rw [F.har]
  refine wpAny_loadName_local F.kind F.sF hns rfl ?_
  refine ks_wpAny_isType_cls hD1 hD2 ⟨rfl, ?_⟩
  refine ks_wpAny_call_super hD1 hD2 ho rfl (fun c e => nomatch e) (PySem.W.looks_mroIn K1 T.sub) (fun h2 e2 k2' => ?_)
  have I2 : Inv (iniCx P w K mg base F.qual F.scope fI F.cda F.cc A outer s H E) [] [some (.ref a), some v] H { s with heap := h2, toks := s.toks + 2 } := I.kept (h' := h2) (t' := s.toks + 2) k2'
  have K2 : K.In h2 := I2.kIn
  have J2 : PySem.W.InstAt h2 a { cls := .ref C, dict := none, data := .fields #[.ref t1, .none, .none, .none, .bool false, .none] } C none := ⟨k2' _ _ ho, rfl, rfl, trivial⟩
  have hsup : PySem.W.alongIn K "__init__" (((Value.ref C :: bm).dropWhile (· != .ref D)).drop 1) = some (some (.builtin "ValueError.__init__")) := by
    have z := T.sup
    unfold PySem.W.ks_superIn at z
    rw [hcl] at z
    exact z
  refine PySem.W.kxs_getMethod PySem.W.kxs_ValueError (l₀ := .ref C :: bm) e2 (PySem.W.looks_opaque K2 F.any) (fun A' Q' E' s' k' q' => wpAny_bind ((PySem.W.looks_clsIn K2 hcl) A' _ E' s' k' (wpAny_pure q'))) rfl K2 hsup (J2.type.andThen (PySem.W.looks_subIn K2 T.ve)) (PySem.W.ks_ne K2 J2 hcl) (by decide) ?_
  have k3' : ∀ b o, h2.get? b = some o → (h2.push (PySem.W.kxs_mw "ValueError.__init__" a)).get? b = some o := fun b o e => Heap.get?_push_of_some _ e
  have I3 : Inv (iniCx P w K mg base F.qual F.scope fI F.cda F.cc A outer s H E) [] [some (.ref a), some v] H { s with heap := h2.push (PySem.W.kxs_mw "ValueError.__init__" a), toks := s.toks + 2 + 1 } := I2.kept (h' := h2.push (PySem.W.kxs_mw "ValueError.__init__" a)) (t' := s.toks + 2 + 1) k3'
  have hu : (h2.push (PySem.W.kxs_mw "ValueError.__init__" a)).get? h2.objs.size = some (PySem.W.kxs_mw "ValueError.__init__" a) := Heap.get?_push_at rfl rfl
  show wpAny (model P w) (A.deeper (iniEnv F.qual F.scope s.heap.objs.size fI F.cda F.cc)) (callWith (F.p 4) (.ref h2.objs.size) [] (backTo (F.p 4) ((false, eval (.Name "value" (F.p 3)) (iniEnv F.qual F.scope s.heap.objs.size fI F.cda F.cc)) :: [])) []) _ _ _
  refine PySem.W.kxs_callWith (i := "ValueError.__init__") (x := a) rfl (evalArgs_plain ?_)
  have kp3 : ∀ b o, h₁.get? b = some o → (h2.push (PySem.W.kxs_mw "ValueError.__init__" a)).get? b = some o := fun b o e => k3' b o (k2' b o e)
  refine spliced_cons (PySem.ESX.ldL (hns.keeps kp3) rfl (spliced_nil ⟨hu, ?_⟩) F.kind F.sV)
  have K3 : K.In (h2.push (PySem.W.kxs_mw "ValueError.__init__" a)) := I3.kIn
  refine wpAny_call (codeAny_of_tree ?_)
  show wpAny _ (A.deeper (iniEnv F.qual F.scope s.heap.objs.size fI F.cda F.cc)).in1 (callAny (.ref h2.objs.size) ⟨[u], []⟩) _ _ _
  simp only [callAny]
  refine wpAny_bind (wpAny_load hu ?_)
  simp only [PySem.W.kxs_mw, show (Value.type "method-wrapper" == Value.type "method" || Value.type "method-wrapper" == Value.type "builtin_function_or_method" || Value.type "method-wrapper" == Value.type "method-wrapper") = true by decide, if_true]
  refine PySem.W.KFB.if_so (by decide) ?_
  refine wpAny_bind (PySem.W.check_bound_init PySem.F.excBase_ValueError.toExcCallFacts (K3 _ _ hC) (kp3 _ _ ho) rfl ?_)
  refine wpAny_bind (wpAny_pure (wpAny_pure ?_))
  refine ⟨plainId_quiet PySem.F.excBase_ValueError.init.plain _, codeAny_builtin PySem.F.excBase_ValueError.initEntry ?_⟩
  refine PySem.W.exc_init_tree (cls := .ref C) (t0 := t1) (dv := none) (c2 := .none) (c3 := .none) (b4 := .bool false) (kp3 _ _ ho) (by rw [sizeLine_eq]; show 1 ≤ _; omega) fun h4 k4 hx4 _ => ?_
  have J4 := I3.write (h' := h4) (t' := s.toks + 2 + 1) (x := a) (e := a) (o := exo a C none) (by rw [ea]; exact True.intro) (.inl rfl) k4 ⟨_, hx4⟩ (exo_ok hx4)
  have eu : upd H a (exo a C none) = H := by
    funext b
    by_cases hb : b = a
    · rw [hb, upd_same, ea]
    · rw [upd_ne hb]
  rw [eu] at J4
  refine PySem.wpAt_of_wpAny ?_
  have ps : PSs (iniCx P w K mg base F.qual F.scope fI F.cda F.cc A outer s H E) [.Assign [.Attribute (.Name "self" (F.p 6)) "value" (F.p 7)] (.Name "value" (F.p 8)) (F.p 9)] (tSeq (tOst K "value" (tVar 0) (tVar 1)) tNext) :=
    pss_cons (ps_ost (pe_var rfl (.inl F.sF)) (pe_var rfl (.inl F.sV))) pss_nil
  refine wpAny_mono (ps.run [] _ [some (.ref a), some v] H { nx := fun _ H' => Q .non H', rt := Q } J4 ⟨v, rfl, .ref a, rfl, a, C, rfl, T.oex, T.val, .inl ⟨ea, fun d h1 h2 => q d h1 h2⟩⟩) (fun fl s' hs => ?_) fun e s' hs => hs
  cases fl with
  | ret u =>
    obtain ⟨v', σ', H', J, rv', q'⟩ := hs
    exact ⟨v', H', J.os, J.bare, J.base, J.hok, rv', q'⟩
  | next =>
    obtain ⟨σ', H', J, q'⟩ := hs
    exact ⟨V.non, H', J.os, J.bare, J.base, J.hok, rfl, q'⟩
  | brk =>
    obtain ⟨_, _, _, q'⟩ := hs
    exact False.elim q'
  | cont =>
    obtain ⟨_, _, _, q'⟩ := hs
    exact False.elim q'
end
end Z
end

section
set_option Elab.async false
set_option linter.all false
set_option maxRecDepth 100000
set_option maxHeartbeats 4000000
/-! Z: an own error as a value: made, its field, isinstance. -/
namespace Z
open PySem PySem.Spec PySem.Calls PyProof.Rows L2
/-- an own error at e, of the class at C, its dict at d -/
def exV (e C d : Addr) : HO := .ext fun h => ∃ vs : Array Value, h.get? e = some ({ cls := .ref C, dict := some d, data := .fields vs } : Obj)
theorem exV_ok {P : Program} {w : World} {H : Hp} {h : Heap} {e C d : Addr} {vs : Array Value} (he : h.get? e = some ({ cls := .ref C, dict := some d, data := .fields vs } : Obj)) : ObjOk P w H h e (exV e C d) :=
  ⟨⟨vs, he⟩, ⟨_, he⟩, fun h1 h2 z k => by
    obtain ⟨t, q⟩ := z
    exact ⟨t, k _ q⟩⟩
theorem exV_at {P : Program} {w : World} {H : Hp} {h : Heap} {e C d : Addr} (hok : HOk P w H h) (he : H e = some (exV e C d)) : ∃ vs : Array Value, h.get? e = some ({ cls := .ref C, dict := some d, data := .fields vs } : Obj) := by
  have x : ObjOk P w H h e (.ext fun h => ∃ vs : Array Value, h.get? e = some ({ cls := .ref C, dict := some d, data := .fields vs } : Obj)) := hok e _ he
  exact x.1
/-- a ValueError at e -/
def veV (e : Addr) : HO := .ext fun h => ∃ vs : Array Value, h.get? e = some ({ cls := .type "ValueError", dict := none, data := .fields vs } : Obj)
theorem veV_ok {P : Program} {w : World} {H : Hp} {h : Heap} {e : Addr} {vs : Array Value} (he : h.get? e = some ({ cls := .type "ValueError", dict := none, data := .fields vs } : Obj)) : ObjOk P w H h e (veV e) :=
  ⟨⟨vs, he⟩, ⟨_, he⟩, fun h1 h2 z k => by
    obtain ⟨t, q⟩ := z
    exact ⟨t, k _ q⟩⟩
theorem veV_at {P : Program} {w : World} {H : Hp} {h : Heap} {e : Addr} (hok : HOk P w H h) (he : H e = some (veV e)) : ∃ vs : Array Value, h.get? e = some ({ cls := .type "ValueError", dict := none, data := .fields vs } : Obj) := by
  have x : ObjOk P w H h e (.ext fun h => ∃ vs : Array Value, h.get? e = some ({ cls := .type "ValueError", dict := none, data := .fields vs } : Obj)) := hok e _ he
  exact x.1
section
variable {X : Cx} {pins : List (Addr × Obj)} {σ : L2.St} {H : Hp} {s : Shared} {D C fI : Addr}
theorem exV_inst (I : Inv X pins σ H s) {a d : Addr} {fs : List (Str × V)} (ea : H a = some (exV a C d)) (ed : H d = some (.xd fs)) : ∃ ox od, PySem.W.InstAt s.heap a ox C (some od) ∧ ∃ mA, s.heap.Ns1 d mA ∧ (∀ n, PySem.W.lookIn n od = some (mA n)) ∧ ∀ f, RelO (fs.lookup f) (mA f) := by
  obtain ⟨vs, ho⟩ := exV_at I.hok ea
  have hx : ObjOk X.prog X.w H s.heap d (.xd fs) := I.hok d _ ed
  obtain ⟨mA, hns, hr⟩ := hx
  obtain ⟨od, hod, hl⟩ := lookIn_ns hns
  exact ⟨_, od, ⟨ho, rfl, rfl, hod⟩, mA, hns, hl, hr⟩
/-- C(v), as a value -/
theorem exc_made (F : IniD X.prog X.K fI D) (hm : X.mg ("super" : Str) = none) (T : IniC X.K D C) (iC : PySem.W.findIn X.K (.ref C) "__init__" = some (some (.ref fI))) (tI : PySem.W.typeIn X.K (.ref fI) = some (.type "function"))
    (hb : Binds X.K (PySem.W.ksFn F.name F.qual F.params (iniBody F.p) F.scope F.dV F.kV F.doc F.pm F.an (.ref F.cda) F.ct F.cc) ["self", "value"] []) {k : Nat} (hr : Room (k + 1 + 1) X.A) {xe : XK} (hx : Passes (L2.CX X.prog X.w) X xe) (I : Inv X pins σ H s) {v : V} {u : Value} (rv : RelV v u) {Q : VK}
    (h : ∀ a d, H a = none → H d = none → a ≠ d → Q (.ref a) (upd (upd H d (.xd [("value", v)])) a (exV a C d))) : wpAny (model X.prog X.w) X.A (call (.ref C) [u]) (EP X pins σ Q) X.xe s := by
  obtain ⟨nm, q, N, bs, bm, sn, sub, ab, col, dd, k0, k1, k2, k3, k5, hC, hbm⟩ := T.oex.cls
  have F1 : FnOk X.prog X.w X.K X.mg X.base (L2.CX X.prog X.w) (k + 1) fI (PySem.W.ksFn F.name F.qual F.params (iniBody F.p) F.scope F.dV F.kV F.doc F.pm F.an (.ref F.cda) F.ct F.cc) ["self", "value"] (iniSp X.K D) := ini_fn F hm
  obtain ⟨hp, g, dr, tk, os⟩ := s
  have hsz : hp.objs.size ≤ hp.objs.size + 1 := Nat.le_succ _
  have hn : H (hp.objs.size + 1) = none := I.hok.fresh hsz
  have kk : ∀ b o, hp.get? b = some o → ((hp.push (PySem.W.kdv_tup [u])).push (PySem.HandSPX.excO C hp.objs.size)).get? b = some o := fun b o e => Heap.get?_push_of_some _ (Heap.get?_push_of_some _ e)
  have hget : ((hp.push (PySem.W.kdv_tup [u])).push (PySem.HandSPX.excO C hp.objs.size)).get? (hp.objs.size + 1) = some (PySem.HandSPX.excO C hp.objs.size) := by heap_get
  have I2 : Inv X pins σ (upd H (hp.objs.size + 1) (exo (hp.objs.size + 1) C none)) ⟨(hp.push (PySem.W.kdv_tup [u])).push (PySem.HandSPX.excO C hp.objs.size), g, dr, tk, os⟩ :=
    I.laid (t' := tk) (a := hp.objs.size + 1) (o := exo (hp.objs.size + 1) C none) (h' := (hp.push (PySem.W.kdv_tup [u])).push (PySem.HandSPX.excO C hp.objs.size)) kk hsz (exo_ok hget)
  have r2 : Vals [V.ref (hp.objs.size + 1), v] [Value.ref (hp.objs.size + 1), u] := .cons rfl (.cons rv .nil)
  have hus : [u].length ≤ sizeLine := by rw [sizeLine_eq]; show 1 ≤ _; omega
  have hq : iniSp X.K D [V.ref (hp.objs.size + 1), v] (upd H (hp.objs.size + 1) (exo (hp.objs.size + 1) C none))
      (fun r H2 => r = .non ∧ ∃ d, H d = none ∧ d ≠ hp.objs.size + 1 ∧ H2 = upd (upd (upd H (hp.objs.size + 1) (exo (hp.objs.size + 1) C none)) d (exd d [("value", v)])) (hp.objs.size + 1) (exo (hp.objs.size + 1) C (some d))) xe :=
    ⟨_, C, v, rfl, T, upd_same, fun d h1 h2 => ⟨rfl, d, by rw [upd_ne h2] at h1; exact h1, h2, rfl⟩⟩
  refine wpAny_call (PySem.HandSPX.call_own PySem.F.excBase_ValueError (fun Y => PySem.HandSPX.refsVE_contains Y bm hbm) (I.kIn _ _ hC) (PySem.W.looks_findIn I.kIn iC) (fun self => PySem.W.bind_fn I.kIn self tI) hus
    (codeAny_mono (F1.run _ X.stack _ _ ⟨Value.ref (hp.objs.size + 1) :: [u], []⟩ _ _ _ xe (hr.make C [u] []) (I2.env0.make C [u] []) (hb _ (Value.ref (hp.objs.size + 1) :: [u]) I2.kIn rfl) r2 hq) fun r s' hq' => ?_))
  cases r with
  | error er => exact hx pins σ _ _ er s' I2 hq'
  | ok fl =>
    cases fl with
    | ret u' =>
      obtain ⟨w', H2, J, rr, er, d, hd1, hd2, eH⟩ := I2.after hq'
      subst er
      refine ⟨rr, ?_⟩
      subst eH
      have ea : (upd (upd (upd H (hp.objs.size + 1) (exo (hp.objs.size + 1) C none)) d (exd d [("value", v)])) (hp.objs.size + 1) (exo (hp.objs.size + 1) C (some d))) (hp.objs.size + 1) = some (exo (hp.objs.size + 1) C (some d)) := upd_same
      have ed : (upd (upd (upd H (hp.objs.size + 1) (exo (hp.objs.size + 1) C none)) d (exd d [("value", v)])) (hp.objs.size + 1) (exo (hp.objs.size + 1) C (some d))) d = some (exd d [("value", v)]) := by rw [upd_ne hd2, upd_same]
      obtain ⟨t1, ho⟩ := exo_at J.hok ea
      obtain ⟨mA, hns, rel⟩ := exd_at J.hok ed
      obtain ⟨h2, g2, d2, t2, os2⟩ := s'
      have hod : ∃ o, h2.get? d = some o := by
        obtain ⟨o, _, _, z, _⟩ := hns
        exact ⟨o, z⟩
      have J2 := J.write (h' := h2) (t' := t2) (x := d) (e := d) (o := .xd [("value", v)]) (by rw [ed]; exact True.intro) (.inl rfl) (fun b u _ z => z) hod ⟨mA, hns, rel⟩
      have ea2 := (upd_ne (H := upd (upd (upd H (hp.objs.size + 1) (exo (hp.objs.size + 1) C none)) d (exd d [("value", v)])) (hp.objs.size + 1) (exo (hp.objs.size + 1) C (some d))) (o := HO.xd [("value", v)]) (Ne.symm hd2)).trans ea
      have J3 := J2.write (h' := h2) (t' := t2) (x := hp.objs.size + 1) (e := hp.objs.size + 1) (o := exV (hp.objs.size + 1) C d) (by rw [ea2]; exact True.intro) (.inl rfl) (fun b u _ z => z) ⟨_, ho⟩ (exV_ok ho)
      have eq : (upd (upd (upd (upd (upd H (hp.objs.size + 1) (exo (hp.objs.size + 1) C none)) d (exd d [("value", v)])) (hp.objs.size + 1) (exo (hp.objs.size + 1) C (some d))) d (.xd [("value", v)])) (hp.objs.size + 1) (exV (hp.objs.size + 1) C d)) =
          upd (upd H d (.xd [("value", v)])) (hp.objs.size + 1) (exV (hp.objs.size + 1) C d) := by
        funext b
        by_cases hb1 : b = hp.objs.size + 1
        · rw [hb1, upd_same, upd_same]
        · rw [upd_ne hb1, upd_ne hb1]
          by_cases hb2 : b = d
          · rw [hb2, upd_same, upd_same]
          · rw [upd_ne hb2, upd_ne hb2, upd_ne hb1, upd_ne hb2, upd_ne hb1]
      rw [eq] at J3
      exact ⟨.ref (hp.objs.size + 1), _, J3, rfl, h _ d hn hd1 (Ne.symm hd2)⟩
    | next => exact False.elim hq'
    | brk => exact False.elim hq'
    | cont => exact False.elim hq'
/-- e.f, e an own error -/
theorem exc_field (T : XfC X.K C) {n : Str} (hno : PySem.W.findIn X.K (.ref C) n = some none) (I : Inv X pins σ H s) {a d : Addr} {fs : List (Str × V)} {v : V} (ea : H a = some (exV a C d)) (ed : H d = some (.xd fs)) (hv : fs.lookup n = some v) {expr : Bool} {Q : VK} (h : Q v H) :
    wpAny (model X.prog X.w) X.A (getAttr (.ref a) n expr) (EP X pins σ Q) X.xe s := by
  obtain ⟨ox, od, J, mA, hns, hl, hr⟩ := exV_inst I ea ed
  obtain ⟨u, hu, ru⟩ := RelO.some_of (v := v) (o := mA n) (by rw [← hv]; exact hr n)
  exact HandSPX.exc_get I.kIn J T.ga T.gg T.exC (PySem.W.findObj_own T.hdC hno rfl (by rw [hl, hu])) (handed_of ru) ⟨v, H, I.tok _, ru, h⟩
/-- isinstance(e, c) -/
theorem exc_isi (T : ExcC X.K C) (I : Inv X pins σ H s) {a d : Addr} {fs : List (Str × V)} (ea : H a = some (exV a C d)) (ed : H d = some (.xd fs)) {cv : Value} {b : Bool} (e : PySem.W.kitOne X.K (.ref C) cv = some b) {Q : VK} (h : Q (.bl b) H) :
    wpAny (model X.prog X.w) X.A (call (.builtin "isinstance") [.ref a, cv]) (EP X pins σ Q) X.xe s := by
  obtain ⟨ox, od, J, _⟩ := exV_inst I ea ed
  have hcl : (PySem.W.clsIn X.K C).isSome = true := by
    obtain ⟨cd, hc, _⟩ := PySem.W.any_some T.hd
    rw [hc]
    rfl
  exact PySem.W.kia_one (PySem.W.kitx_exc hcl T.hg T.hk T.hs T.ha T.hn T.ht T.hm) I.kIn J e (fun z => nomatch z) fun tk => ⟨.bl b, H, I.kept (t' := tk) fun _ _ z => z, rfl, h⟩
end
end Z
end

section
set_option Elab.async false
set_option linter.all false
set_option maxRecDepth 100000
set_option maxHeartbeats 4000000
/-! Z, part 2: how values and stores lie in the abstract heap of the hand layer. -/
namespace Z
open PySem PySem.W PySem.Spec PyProof.Rows L2

structure Wd where
  P : Program
  w : World
  K : PySem.W.Frag
  mg : PySem.Str → Option Value
  base : Heap
  fnA : Nat → Addr
  clA : Nat → Addr
  fld : Nat → PySem.Str
/-- what is frozen; where the store's things lie -/
structure Gh where
  hs : Hp
  ρ : List Addr
  /-- what is being made: it stays as it is, and nothing refers to it -/
  pn : Hp
def tyN : Ty → String
  | .int => "int" | .str => "str" | .bool => "bool" | .tuple => "tuple" | .list => "list" | .dict => "dict" | .valueError => "ValueError"

mutual
def nk : D → NestedKey
  | .str s => .text s
  | .int i => .num i
  | .tup ds => .tup (nks ds)
  | _ => .none
def nks : List D → List NestedKey
  | [] => []
  | d :: ds => nk d :: nks ds
end
/-- a dict's object: its keys, values as the hand layer has them -/
def DObj (W : Wd) (a : Addr) (o : HO) (ks : List D) (kv vv : List V) : Prop :=
  (∃ kvs : List (Key × V), o = .dK kvs ∧ kv = kvs.map (fun p => kV p.1) ∧ vv = kvs.map (·.2) ∧ ks.all keyS = true) ∨
  (∃ (ob : Obj) (xs : List (NestedKey × Addr × Value)) (es : Array DictEntry) (ep : Nat), o = .ext (fun h => h.get? a = some ob) ∧ (a == sysModules) = false ∧ ob.ExactDict ∧ ob.data = .dict es ep ∧ es.toList = xs.map (entryOfKey (nestedKind W.P W.w)) ∧ (xs.map (·.1)).Nodup ∧
    kv = xs.map (fun x => V.ref x.2.1) ∧ Vals vv (xs.map (·.2.2)) ∧ xs.map (·.1) = nks ks ∧ ks ≠ [] ∧ ks.all keyT = true)

/-- a tuple whose object is known to have no dict -/
def SqF (K : PySem.W.Frag) (H : Hp) (a : Addr) (vs : List V) : Prop :=
  (∃ o : Obj, H a = some (.frz o (.tup vs)) ∧ o.dict = none) ∨
    ∃ (o : Obj) (its : Array Value) (n : Nat), K.lookup a = some o ∧ o.cls = .type "tuple" ∧ o.dict = none ∧ o.data = .seq its n ∧ its.size ≤ sizeLine ∧ Vals vs its.toList
theorem SqF.T {K : PySem.W.Frag} {H : Hp} {a : Addr} {vs : List V} (h : SqF K H a vs) : SqT K H a vs := by
  rcases h with ⟨o, h, _⟩ | ⟨o, its, n, h1, h2, _, h3, h4, h5⟩
  · exact .inl (.inr ⟨o, h⟩)
  · exact .inr ⟨o, its, n, h1, h2, h3, h4, h5⟩
theorem sqF_le {K : PySem.W.Frag} {H H' : Hp} (h : ∀ a o, H a = some o → H' a = some o) {a : Addr} {vs : List V} (r : SqF K H a vs) : SqF K H' a vs := r.elim (fun ⟨o, r, d⟩ => .inl ⟨o, h _ _ r, d⟩) .inr
section
variable (W : Wd) (g : Gh)
mutual
def RD : D → V → Prop
  | .non, v => v = .non
  | .bl b, v => v = .bl b
  | .int i, v => v = .int i
  | .str s, v => v = .str s
  | .tup ds, v => ∃ a vs, v = .ref a ∧ SqF W.K g.hs a vs ∧ RDs ds vs
  | .lst ds, v => ∃ a vs, v = .ref a ∧ g.hs a = some (.lst vs) ∧ RDs ds vs
  | .scr ds, v => ∃ a vs, v = .ref a ∧ SqL W.K g.hs a vs ∧ RDs ds vs
  | .dct ks ds, v => ∃ a o kv vv, v = .ref a ∧ g.hs a = some o ∧ DObj W a o ks kv vv ∧ RDs ks kv ∧ RDs ds vv
  | .set ds, v => ds = [] ∧ ∃ a, v = .ref a ∧ g.hs a = some (veV a)
  | .ins c fs ds, v => ∃ a dx vs, v = .ref a ∧ g.hs a = some (.ins (W.clA c) dx ((fs.map W.fld).zip vs)) ∧ fs.length = vs.length ∧ RDs ds vs
  | .exc c d, v => ∃ a dx v', v = .ref a ∧ g.hs a = some (exV a (W.clA c) dx) ∧ g.hs dx = some (.xd [("value", v')]) ∧ RD d v'
  | .ref n, v => ∃ a, g.ρ[n]? = some a ∧ v = .ref a
  | .fn f, v => v = .ref (W.fnA f)
  | .cls c, v => v = .ref (W.clA c)
  | .ty t, v => v = .ty (tyN t)
def RDs : List D → List V → Prop
  | [], vs => vs = []
  | d :: ds, vs => ∃ v r, vs = v :: r ∧ RD d v ∧ RDs ds r
end
end
def RO (W : Wd) (g : Gh) (a : Addr) (o : O) (ho : HO) : Prop := match o with
  | .lst ds => ∃ vs, ho = .lst vs ∧ RDs W g ds vs
  | .dct ks ds => ∃ kv vv, DObj W a ho ks kv vv ∧ RDs W g ks kv ∧ RDs W g ds vv
  | .ins c fs ds => ∃ dx vs, ho = .ins (W.clA c) dx ((fs.map W.fld).zip vs) ∧ fs.length = vs.length ∧ RDs W g ds vs

structure RS (W : Wd) (g : Gh) (S : List O) (H : Hp) : Prop where
  len : g.ρ.length = S.length
  sub : ∀ a o, g.hs a = some o → H a = some o
  nod : g.ρ.Nodup
  out : ∀ a ∈ g.ρ, g.hs a = none
  pin : ∀ a o, g.pn a = some o → H a = some o
  pdj : ∀ a o, g.pn a = some o → g.hs a = none ∧ a ∉ g.ρ
  obj : ∀ (n : Nat) (o : O) (a : Addr), S[n]? = some o → g.ρ[n]? = some a → ∃ ho, H a = some ho ∧ RO W g a o ho
def RSt (W : Wd) (g : Gh) (σd : St) (σ : L2.St) : Prop := ∀ (i : Nat) (d : D), σd[i]? = some (some d) → ∃ v, σ[i]? = some (some v) ∧ RD W g d v
/-- more is known -/
structure Le0 (g g' : Gh) : Prop where
  hs : ∀ a o, g.hs a = some o → g'.hs a = some o
  ρ : ∀ (n : Nat) (a : Addr), g.ρ[n]? = some a → g'.ρ[n]? = some a
structure Le (g g' : Gh) : Prop where
  hs : ∀ a o, g.hs a = some o → g'.hs a = some o
  ρ : ∀ (n : Nat) (a : Addr), g.ρ[n]? = some a → g'.ρ[n]? = some a
  pn : ∀ a o, g.pn a = some o → g'.pn a = some o
theorem Le.to0 {g g' : Gh} (l : Le g g') : Le0 g g' := ⟨l.hs, l.ρ⟩
instance {g g' : Gh} : Coe (Le g g') (Le0 g g') := ⟨Le.to0⟩
theorem Le.rfl' {g : Gh} : Le g g := ⟨fun _ _ h => h, fun _ _ h => h, fun _ _ h => h⟩
theorem Le.trans {g g1 g2 : Gh} (a : Le g g1) (b : Le g1 g2) : Le g g2 := ⟨fun c o h => b.hs c o (a.hs c o h), fun n c h => b.ρ n c (a.ρ n c h), fun c o h => b.pn c o (a.pn c o h)⟩

section
variable {W : Wd} {g g' : Gh}
theorem Rd.le {H H' : Hp} (h : ∀ a o, H a = some o → H' a = some o) {a : Addr} {u : HO} (r : Rd H a u) : Rd H' a u := r.elim (fun r => .inl (h _ _ r)) fun ⟨o, r⟩ => .inr ⟨o, h _ _ r⟩
theorem sqT_le {K : PySem.W.Frag} {H H' : Hp} (h : ∀ a o, H a = some o → H' a = some o) {a : Addr} {vs : List V} (r : SqT K H a vs) : SqT K H' a vs := r.elim (fun r => .inl (Rd.le h r)) .inr
theorem sqL_le {K : PySem.W.Frag} {H H' : Hp} (h : ∀ a o, H a = some o → H' a = some o) {a : Addr} {vs : List V} (r : SqL K H a vs) : SqL K H' a vs := r.elim (fun r => .inl (Rd.le h r)) .inr
mutual
theorem RD.mono (l : Le0 g g') : ∀ {d : D} {v : V}, RD W g d v → RD W g' d v
  | .non, _, h => h
  | .bl _, _, h => h
  | .int _, _, h => h
  | .str _, _, h => h
  | .tup ds, _, h => by
    obtain ⟨a, vs, e, s, r⟩ := h
    exact ⟨a, vs, e, sqF_le l.hs s, RDs.mono l r⟩
  | .lst ds, _, h => by
    obtain ⟨a, vs, e, s, r⟩ := h
    exact ⟨a, vs, e, l.hs _ _ s, RDs.mono l r⟩
  | .scr ds, _, h => by
    obtain ⟨a, vs, e, s, r⟩ := h
    exact ⟨a, vs, e, sqL_le l.hs s, RDs.mono l r⟩
  | .dct ks ds, _, h => by
    obtain ⟨a, o, kv, vv, e, s, t, r, q⟩ := h
    exact ⟨a, o, kv, vv, e, l.hs _ _ s, t, RDs.mono l r, RDs.mono l q⟩
  | .set _, _, h => by
    obtain ⟨h0, a, e, s⟩ := h
    exact ⟨h0, a, e, l.hs _ _ s⟩
  | .ins c fs ds, _, h => by
    obtain ⟨a, dx, vs, e, s, t, r⟩ := h
    exact ⟨a, dx, vs, e, l.hs _ _ s, t, RDs.mono l r⟩
  | .exc _ d, _, h => by
    obtain ⟨a, dx, v', e, s, t, r⟩ := h
    exact ⟨a, dx, v', e, l.hs _ _ s, l.hs _ _ t, RD.mono l r⟩
  | .ref n, _, h => by
    obtain ⟨a, e, q⟩ := h
    exact ⟨a, l.ρ _ _ e, q⟩
  | .fn _, _, h => h
  | .cls _, _, h => h
  | .ty _, _, h => h
theorem RDs.mono (l : Le0 g g') : ∀ {ds : List D} {vs : List V}, RDs W g ds vs → RDs W g' ds vs
  | [], _, h => h
  | d :: ds, _, h => by
    obtain ⟨v, r, e, h1, h2⟩ := h
    exact ⟨v, r, e, RD.mono l h1, RDs.mono l h2⟩
end
theorem RO.mono (l : Le0 g g') {a : Addr} {o : O} {ho : HO} (h : RO W g a o ho) : RO W g' a o ho := by
  cases o with
  | lst ds => obtain ⟨vs, e, r⟩ := h; exact ⟨vs, e, r.mono l⟩
  | dct ks ds => obtain ⟨kv, vv, e, r, q⟩ := h; exact ⟨kv, vv, e, r.mono l, q.mono l⟩
  | ins c fs ds => obtain ⟨dx, vs, e, t, r⟩ := h; exact ⟨dx, vs, e, t, r.mono l⟩
theorem RSt.mono (l : Le0 g g') {σd : St} {σ : L2.St} (h : RSt W g σd σ) : RSt W g' σd σ := fun i d e => by
  obtain ⟨v, e2, r⟩ := h i d e
  exact ⟨v, e2, r.mono l⟩
theorem RDs.nil : RDs W g [] [] := rfl
theorem RDs.cons {d : D} {v : V} {ds : List D} {vs : List V} (h : RD W g d v) (t : RDs W g ds vs) : RDs W g (d :: ds) (v :: vs) := ⟨v, vs, rfl, h, t⟩
theorem RDs.length : ∀ {ds : List D} {vs : List V}, RDs W g ds vs → ds.length = vs.length
  | [], _, h => by rw [show _ = [] from h]; rfl
  | d :: ds, _, h => by
    obtain ⟨v, r, rfl, _, h2⟩ := h
    simp [RDs.length h2]
theorem RDs.append : ∀ {ds es : List D} {vs us : List V}, RDs W g ds vs → RDs W g es us → RDs W g (ds ++ es) (vs ++ us)
  | [], _, _, _, h, q => by rw [show _ = [] from h]; exact q
  | d :: ds, _, _, _, h, q => by
    obtain ⟨v, r, rfl, h1, h2⟩ := h
    exact ⟨v, r ++ _, rfl, h1, RDs.append h2 q⟩
theorem RDs.get : ∀ {ds : List D} {vs : List V} {i : Nat} {d : D}, RDs W g ds vs → ds[i]? = some d → ∃ v, vs[i]? = some v ∧ RD W g d v
  | [], _, _, _, _, e => by simp at e
  | d :: ds, _, 0, _, h, e => by
    obtain ⟨v, r, rfl, h1, h2⟩ := h
    simp at e
    subst e
    exact ⟨v, rfl, h1⟩
  | d :: ds, _, i + 1, _, h, e => by
    obtain ⟨v, r, rfl, h1, h2⟩ := h
    obtain ⟨u, e2, q⟩ := RDs.get h2 (i := i) (by simpa using e)
    exact ⟨u, by simpa using e2, q⟩
theorem RDs.getV : ∀ {ds : List D} {vs : List V} {i : Nat} {v : V}, RDs W g ds vs → vs[i]? = some v → ∃ d, ds[i]? = some d ∧ RD W g d v := fun {ds vs i v} h e => by
  have hl := h.length
  have hi : i < vs.length := (List.getElem?_eq_some_iff.mp e).1
  obtain ⟨u, e2, q⟩ := h.get (i := i) (d := ds[i]'(by omega)) (by simp)
  rw [e] at e2
  cases e2
  exact ⟨_, by simp, q⟩
theorem RDs.of_get : ∀ {ds : List D} {vs : List V}, ds.length = vs.length → (∀ (i : Nat) (d : D) (v : V), ds[i]? = some d → vs[i]? = some v → RD W g d v) → RDs W g ds vs
  | [], [], _, _ => rfl
  | [], _ :: _, h, _ => by simp at h
  | _ :: _, [], h, _ => by simp at h
  | d :: ds, v :: vs, h, q => ⟨v, vs, rfl, q 0 d v rfl rfl, RDs.of_get (by simpa using h) fun i d v e1 e2 => q (i + 1) d v (by simpa using e1) (by simpa using e2)⟩
theorem RDs.take {ds : List D} {vs : List V} (h : RDs W g ds vs) (n : Nat) : RDs W g (ds.take n) (vs.take n) := by
  have hl := h.length
  refine RDs.of_get (by simp [hl]) fun i d v e1 e2 => ?_
  rw [List.getElem?_take] at e1 e2
  split at e1
  · obtain ⟨u, e3, q⟩ := h.get e1
    rw [if_pos (by assumption)] at e2
    rw [e3] at e2
    cases e2
    exact q
  · cases e1
theorem RDs.drop {ds : List D} {vs : List V} (h : RDs W g ds vs) (n : Nat) : RDs W g (ds.drop n) (vs.drop n) := by
  have hl := h.length
  refine RDs.of_get (by simp [hl]) fun i d v e1 e2 => ?_
  rw [List.getElem?_drop] at e1 e2
  obtain ⟨u, e3, q⟩ := h.get e1
  rw [e3] at e2
  cases e2
  exact q
theorem RDs.set {ds : List D} {vs : List V} (h : RDs W g ds vs) {d : D} {v : V} (r : RD W g d v) (j : Nat) : RDs W g (ds.set j d) (vs.set j v) := by
  have hl := h.length
  refine RDs.of_get (by simp [hl]) fun i d' v' e1 e2 => ?_
  rw [List.getElem?_set] at e1 e2
  by_cases hij : j = i
  · rw [if_pos hij] at e1 e2
    split at e1
    · rw [if_pos (by omega)] at e2
      cases e1; cases e2
      exact r
    · cases e1
  · rw [if_neg hij] at e1 e2
    obtain ⟨u, e3, q⟩ := h.get e1
    rw [e3] at e2
    cases e2
    exact q
theorem RDs.eraseIdx {ds : List D} {vs : List V} (h : RDs W g ds vs) (j : Nat) : RDs W g (ds.eraseIdx j) (vs.eraseIdx j) := by
  rw [List.eraseIdx_eq_take_drop_succ, List.eraseIdx_eq_take_drop_succ]
  exact (h.take j).append (h.drop (j + 1))
theorem RDs.strs : ∀ (ts : List PySem.Str), RDs W g (ts.map .str) (ts.map V.str)
  | [] => rfl
  | t :: ts => ⟨_, _, rfl, rfl, RDs.strs ts⟩
mutual
/-- references lie below -/
theorem RD.und : ∀ {d : D} {v : V}, RD W g d v → d.und g.ρ.length = true
  | .non, _, _ => rfl
  | .bl _, _, _ => rfl
  | .int _, _, _ => rfl
  | .str _, _, _ => rfl
  | .tup ds, _, h => by
    obtain ⟨a, vs, e, s, r⟩ := h
    exact RDs.und r
  | .lst ds, _, h => by
    obtain ⟨a, vs, e, s, r⟩ := h
    exact RDs.und r
  | .scr ds, _, h => by
    obtain ⟨a, vs, e, s, r⟩ := h
    exact RDs.und r
  | .dct ks ds, _, h => by
    obtain ⟨a, o, kv, vv, e, s, t, r, q⟩ := h
    exact Bool.and_eq_true_iff.mpr ⟨RDs.und r, RDs.und q⟩
  | .set _, _, h => by
    obtain ⟨h0, _⟩ := h
    subst h0
    rfl
  | .ins c fs ds, _, h => by
    obtain ⟨a, dx, vs, e, s, t, r⟩ := h
    exact RDs.und r
  | .exc _ d, _, h => by
    obtain ⟨a, dx, v', e, s, t, r⟩ := h
    have q := RD.und r
    exact q
  | .ref n, _, h => by
    obtain ⟨a, e, q⟩ := h
    exact decide_eq_true (List.getElem?_eq_some_iff.mp e).1
  | .fn _, _, _ => rfl
  | .cls _, _, _ => rfl
  | .ty _, _, _ => rfl
theorem RDs.und : ∀ {ds : List D} {vs : List V}, RDs W g ds vs → unds g.ρ.length ds = true
  | [], _, _ => rfl
  | d :: ds, _, h => by
    obtain ⟨v, r, e, h1, h2⟩ := h
    exact Bool.and_eq_true_iff.mpr ⟨RD.und h1, RDs.und h2⟩
end
end

/-! ### readings -/
section
variable (W : Wd)
/-- what is wanted of an error -/
def ErrP (E : XK) (g : Gh) (e : D) (S : List O) : Prop := match e with
  | .exc c d => ∀ g' H' v dx, Le g g' → RS W g' S H' → RD W g' d v → H' dx = some (.xd [("value", v)]) → E (.ref (W.clA c)) (some dx) H'
  | _ => False
def OutG {α β : Type} (rel : Gh → α → β → Prop) (E : XK) (g : Gh) (r : R α) (Q : β → Hp → Prop) : Prop := match r with
  | .ok d S => ∀ g' H' v, Le g g' → RS W g' S H' → rel g' d v → Q v H'
  | .err e S => ErrP W E g e S
  | .bad => False
/-- a reading by the evaluator f -/
def tEvG {α β : Type} (rel : Gh → α → β → Prop) (E : WX) (f : St → List O → R α) : L2.St → Hp → (β → Hp → Prop) → Prop := fun σ H Q => ∃ g S σd, RS W g S H ∧ RSt W g σd σ ∧ OutG W rel (fun c d H => E c d σ H) g (f σd S) Q
end
abbrev Out (W : Wd) : XK → Gh → R D → VK → Prop := OutG W (RD W)
abbrev OutL (W : Wd) : XK → Gh → R (List D) → (List V → Hp → Prop) → Prop := OutG W (RDs W)
abbrev OutB (W : Wd) : XK → Gh → R Bool → (Bool → Hp → Prop) → Prop := OutG W (fun _ (k b : Bool) => k = b)
abbrev tEv (W : Wd) : WX → (St → List O → R D) → TE := tEvG W (RD W)
abbrev tEvs (W : Wd) : WX → (St → List O → R (List D)) → TA := tEvG W (RDs W)
abbrev tEvB (W : Wd) : WX → (St → List O → R Bool) → TT := tEvG W (fun _ (k b : Bool) => k = b)
section
variable {W : Wd} {E : XK} {σ : L2.St} {H : Hp} {g g' : Gh} {α β γ δ : Type} {rel : Gh → α → β → Prop} {rel2 : Gh → γ → δ → Prop}
theorem ErrP.le (l : Le g g') {e : D} {S : List O} (h : ErrP W E g e S) : ErrP W E g' e S := by
  cases e <;> first
    | exact h
    | exact fun g2 H' v dx l2 => h g2 H' v dx (l.trans l2)
theorem OutG.le (l : Le g g') {r : R α} {Q : β → Hp → Prop} (h : OutG W rel E g r Q) : OutG W rel E g' r Q := by
  cases r with
  | ok d S => exact fun g2 H' v l2 => h g2 H' v (l.trans l2)
  | err e S => exact ErrP.le l h
  | bad => exact h
theorem OutG.mono {r : R α} {Q Q' : β → Hp → Prop} (h : OutG W rel E g r Q) (k : ∀ v H, Q v H → Q' v H) : OutG W rel E g r Q' := by
  cases r with
  | ok d S => exact fun g2 H' v l2 a b => k _ _ (h g2 H' v l2 a b)
  | err e S => exact h
  | bad => exact h
/-- the first of two steps: its value, its state; then the second -/
def Nxt (W : Wd) (rel : Gh → α → β → Prop) (rel2 : Gh → γ → δ → Prop) (E : XK) (σ : L2.St) (g : Gh) (σd : St) (f : α → List O → R γ) (Q : δ → Hp → Prop) : β → Hp → Prop :=
  fun x H1 => ∃ g1 S1 d, Le g g1 ∧ RS W g1 S1 H1 ∧ RSt W g1 σd σ ∧ rel g1 d x ∧ OutG W rel2 E g1 (f d S1) Q
theorem OutG.bind {r : R α} {f : α → List O → R γ} {Q : δ → Hp → Prop} {σd : St} (rst : RSt W g σd σ) (h : OutG W rel2 E g (r.bind f) Q) : OutG W rel E g r (Nxt W rel rel2 E σ g σd f Q) := by
  cases r with
  | ok d S => exact fun g' H' v l rs rd => ⟨g', S, d, l, rs, rst.mono l, rd, OutG.le l h⟩
  | err e S => exact h
  | bad => exact h
theorem tEvG.of {E : WX} {f : St → List O → R α} {S : List O} {σd : St} {Q : β → Hp → Prop} (rs : RS W g S H) (rst : RSt W g σd σ) (h : OutG W rel (fun c d H => E c d σ H) g (f σd S) Q) : tEvG W rel E f σ H Q := ⟨g, S, σd, rs, rst, h⟩
theorem PE.mono {X : Cx} {e : Expr} {t t' : TE} (h : PE X e t) (k : ∀ σ H Q, t' σ H Q → t σ H Q) : PE X e t' := ⟨fun pins s σ H Q I q => h.run pins s σ H Q I (k σ H Q q)⟩
theorem PT.mono {X : Cx} {e : Expr} {t t' : TT} (h : PT X e t) (k : ∀ σ H Q, t' σ H Q → t σ H Q) : PT X e t' := ⟨fun pins s σ H Q I q => h.run pins s σ H Q I (k σ H Q q)⟩
theorem PA.mono {X : Cx} {e : List Expr} {t t' : TA} (h : PA X e t) (k : ∀ σ H Q, t' σ H Q → t σ H Q) : PA X e t' := ⟨fun pos pins s σ H Q I q => h.run pos pins s σ H Q I (k σ H Q q)⟩
end
end Z
end

section
set_option Elab.async false
set_option linter.all false
set_option maxRecDepth 100000
set_option maxHeartbeats 4000000
/-! Z, part 3: operations by values. -/
namespace Z
open PySem PySem.W PySem.Spec PyProof.Rows L2

/-! ### pure data -/
mutual
theorem py_plain : ∀ {d : D} {p : PyData}, d.py = some p → p.plain = true
  | .non, _, h => by cases h; rfl
  | .bl _, _, h => by cases h; rfl
  | .int _, _, h => by cases h; rfl
  | .str _, _, h => by cases h; rfl
  | .tup ds, _, h => by
    obtain ⟨xs, e, rfl⟩ := Option.map_eq_some_iff.mp h
    exact pys_plain e
  | .lst ds, _, h => by
    obtain ⟨xs, e, rfl⟩ := Option.map_eq_some_iff.mp h
    exact pys_plain e
  | .scr ds, _, h => by
    obtain ⟨xs, e, rfl⟩ := Option.map_eq_some_iff.mp h
    exact pys_plain e
theorem pys_plain : ∀ {ds : List D} {ps : List PyData}, pys ds = some ps → PyData.plainAll ps = true
  | [], _, h => by cases h; rfl
  | d :: ds, _, h => by
    simp only [pys] at h
    split at h
    · rename_i x xs h1 h2
      cases h
      exact Bool.and_eq_true_iff.mpr ⟨py_plain h1, pys_plain h2⟩
    · cases h
end
mutual
theorem py_dep : ∀ {d : D} {p : PyData}, d.py = some p → p.depth = d.dep
  | .non, _, h => by cases h; rfl
  | .bl _, _, h => by cases h; rfl
  | .int _, _, h => by cases h; rfl
  | .str _, _, h => by cases h; rfl
  | .tup ds, _, h => by
    obtain ⟨xs, e, rfl⟩ := Option.map_eq_some_iff.mp h
    show PyData.depthAll xs + 1 = deps ds + 1
    rw [pys_dep e]
  | .lst ds, _, h => by
    obtain ⟨xs, e, rfl⟩ := Option.map_eq_some_iff.mp h
    show PyData.depthAll xs + 1 = deps ds + 1
    rw [pys_dep e]
  | .scr ds, _, h => by
    obtain ⟨xs, e, rfl⟩ := Option.map_eq_some_iff.mp h
    show PyData.depthAll xs + 1 = deps ds + 1
    rw [pys_dep e]
theorem pys_dep : ∀ {ds : List D} {ps : List PyData}, pys ds = some ps → PyData.depthAll ps = deps ds
  | [], _, h => by cases h; rfl
  | d :: ds, _, h => by
    simp only [pys] at h
    split at h
    · rename_i x xs h1 h2
      cases h
      show max x.depth (PyData.depthAll xs) = max d.dep (deps ds)
      rw [py_dep h1, pys_dep h2]
    · cases h
end
theorem py_tup {ds : List D} {p : PyData} (h : (D.tup ds).py = some p) : ∃ xs, pys ds = some xs ∧ p = .tuple xs := by
  obtain ⟨xs, e, rfl⟩ := Option.map_eq_some_iff.mp h
  exact ⟨xs, e, rfl⟩
theorem py_lst {ds : List D} {p : PyData} (h : (D.lst ds).py = some p) : ∃ xs, pys ds = some xs ∧ p = .list xs := by
  obtain ⟨xs, e, rfl⟩ := Option.map_eq_some_iff.mp h
  exact ⟨xs, e, rfl⟩
theorem py_scr {ds : List D} {p : PyData} (h : (D.scr ds).py = some p) : ∃ xs, pys ds = some xs ∧ p = .list xs := by
  obtain ⟨xs, e, rfl⟩ := Option.map_eq_some_iff.mp h
  exact ⟨xs, e, rfl⟩
theorem pys_cons {d : D} {ds : List D} {ps : List PyData} (h : pys (d :: ds) = some ps) : ∃ x xs, d.py = some x ∧ pys ds = some xs ∧ ps = x :: xs := by
  simp only [pys] at h
  split at h
  · rename_i x xs h1 h2
    cases h
    exact ⟨x, xs, h1, h2, rfl⟩
  · cases h
mutual
theorem py_eqv : ∀ (x y : D) {p q : PyData}, x.py = some p → y.py = some q → y.notScr = true → x.eqv y = PyData.eqv p q
  | .tup a, y, p, q, h, k, ns => by
    obtain ⟨xs, e, rfl⟩ := py_tup h
    cases y with
    | tup b =>
      obtain ⟨ys, e2, rfl⟩ := py_tup k
      simp only [D.eqv, PyData.eqv]
      exact pys_eqv a b e e2 ns
    | lst b => obtain ⟨ys, e2, rfl⟩ := py_lst k; simp [D.eqv, PyData.eqv]
    | scr b => cases ns
    | _ => cases k <;> simp [D.eqv, PyData.eqv]
  | .lst a, y, p, q, h, k, ns => by
    obtain ⟨xs, e, rfl⟩ := py_lst h
    cases y with
    | lst b =>
      obtain ⟨ys, e2, rfl⟩ := py_lst k
      simp only [D.eqv, PyData.eqv]
      exact pys_eqv a b e e2 ns
    | tup b => obtain ⟨ys, e2, rfl⟩ := py_tup k; simp [D.eqv, PyData.eqv]
    | scr b => cases ns
    | _ => cases k <;> simp [D.eqv, PyData.eqv]
  | .scr a, y, p, q, h, k, ns => by
    obtain ⟨xs, e, rfl⟩ := py_scr h
    cases y with
    | lst b =>
      obtain ⟨ys, e2, rfl⟩ := py_lst k
      simp only [D.eqv, PyData.eqv]
      exact pys_eqv a b e e2 ns
    | tup b => obtain ⟨ys, e2, rfl⟩ := py_tup k; simp [D.eqv, PyData.eqv]
    | scr b => cases ns
    | _ => cases k <;> simp [D.eqv, PyData.eqv]
  | .non, y, p, q, h, k, ns => by
    cases h
    cases y with
    | tup b => obtain ⟨ys, e2, rfl⟩ := py_tup k; simp [D.eqv, PyData.eqv]
    | lst b => obtain ⟨ys, e2, rfl⟩ := py_lst k; simp [D.eqv, PyData.eqv]
    | scr b => cases ns
    | _ => cases k <;> simp [D.eqv, PyData.eqv]
  | .bl b, y, p, q, h, k, ns => by
    cases h
    cases y with
    | tup b => obtain ⟨ys, e2, rfl⟩ := py_tup k; simp [D.eqv, PyData.eqv]
    | lst b => obtain ⟨ys, e2, rfl⟩ := py_lst k; simp [D.eqv, PyData.eqv]
    | scr b => cases ns
    | _ => cases k <;> simp [D.eqv, PyData.eqv]
  | .int b, y, p, q, h, k, ns => by
    cases h
    cases y with
    | tup b => obtain ⟨ys, e2, rfl⟩ := py_tup k; simp [D.eqv, PyData.eqv]
    | lst b => obtain ⟨ys, e2, rfl⟩ := py_lst k; simp [D.eqv, PyData.eqv]
    | scr b => cases ns
    | _ => cases k <;> simp [D.eqv, PyData.eqv]
  | .str b, y, p, q, h, k, ns => by
    cases h
    cases y with
    | tup b => obtain ⟨ys, e2, rfl⟩ := py_tup k; simp [D.eqv, PyData.eqv]
    | lst b => obtain ⟨ys, e2, rfl⟩ := py_lst k; simp [D.eqv, PyData.eqv]
    | scr b => cases ns
    | _ => cases k <;> simp [D.eqv, PyData.eqv]
  | .dct _ _, _, _, _, h, _, _ => nomatch h
  | .set _, _, _, _, h, _, _ => nomatch h
  | .ins _ _ _, _, _, _, h, _, _ => nomatch h
  | .exc _ _, _, _, _, h, _, _ => nomatch h
  | .ref _, _, _, _, h, _, _ => nomatch h
  | .fn _, _, _, _, h, _, _ => nomatch h
  | .cls _, _, _, _, h, _, _ => nomatch h
  | .ty _, _, _, _, h, _, _ => nomatch h
theorem pys_eqv : ∀ (xs ys : List D) {ps qs : List PyData}, pys xs = some ps → pys ys = some qs → notScrs ys = true → eqvs xs ys = PyData.eqvAll ps qs
  | [], ys, ps, qs, h, k, ns => by
    cases h
    cases ys with
    | nil => cases k; simp [eqvs, PyData.eqvAll]
    | cons y ys => obtain ⟨b, bs, k1, k2, rfl⟩ := pys_cons k; simp [eqvs, PyData.eqvAll]
  | x :: xs, ys, ps, qs, h, k, ns => by
    obtain ⟨a, as, h1, h2, rfl⟩ := pys_cons h
    cases ys with
    | nil => cases k; simp [eqvs, PyData.eqvAll]
    | cons y ys =>
      obtain ⟨b, bs, k1, k2, rfl⟩ := pys_cons k
      simp only [eqvs, PyData.eqvAll]
      obtain ⟨n1, n2⟩ := Bool.and_eq_true_iff.mp ns
      rw [py_eqv x y h1 k1 n1, pys_eqv xs ys h2 k2 n2]
end
theorem pys_length : ∀ {xs : List D} {ps : List PyData}, pys xs = some ps → ps.length = xs.length
  | [], _, h => by cases h; rfl
  | x :: xs, _, h => by
    simp only [pys] at h
    split at h
    · rename_i a as h1 h2
      cases h
      simp [pys_length h2]
    · cases h
theorem pys_get : ∀ {xs : List D} {ps : List PyData} {i : Nat} {d : D}, pys xs = some ps → xs[i]? = some d → ∃ p, ps[i]? = some p ∧ d.py = some p
  | [], _, _, _, _, e => by simp at e
  | x :: xs, _, i, d, h, e => by
    simp only [pys] at h
    split at h
    · rename_i a as h1 h2
      cases h
      cases i with
      | zero =>
        simp at e
        subst e
        exact ⟨a, rfl, h1⟩
      | succ i =>
        obtain ⟨p, e1, e2⟩ := pys_get h2 (i := i) (by simpa using e)
        exact ⟨p, by simpa using e1, e2⟩
    · cases h
theorem pys_any {x : D} {p : PyData} (hx : x.py = some p) (ns : x.notScr = true) : ∀ {xs : List D} {ps : List PyData}, pys xs = some ps → (xs.any fun d => d.eqv x) = ps.any fun y => PyData.eqv y p
  | [], _, h => by cases h; rfl
  | y :: ys, _, h => by
    simp only [pys] at h
    split at h
    · rename_i a as h1 h2
      cases h
      simp only [List.any_cons]
      rw [py_eqv _ _ h1 hx ns, pys_any hx ns h2]
    · cases h

/-! ### readings of data -/
section
variable {X : Cx} {W : Wd} {pins : List (Addr × Obj)} {σ : L2.St} {H : Hp} {s : Shared} {g : Gh} {S : List O}
mutual
theorem dp_of (sub : ∀ a o, g.hs a = some o → H a = some o) : ∀ (d : D) {v : V} {p : PyData}, RD W g d v → d.py = some p → Dp W.K H v p
  | .non, _, _, h, e => by cases e; cases h; exact .non
  | .bl _, _, _, h, e => by cases e; cases h; exact .bl _
  | .int _, _, _, h, e => by cases e; cases h; exact .int _
  | .str _, _, _, h, e => by cases e; cases h; exact .str _
  | .tup ds, _, _, h, e => by
    obtain ⟨xs, e', rfl⟩ := py_tup e
    obtain ⟨a, vs, rfl, q, rs⟩ := h
    exact .tup (sqF_le sub q).T (dp_all sub ds rs e')
  | .lst ds, _, _, h, e => by
    obtain ⟨xs, e', rfl⟩ := py_lst e
    obtain ⟨a, vs, rfl, q, rs⟩ := h
    exact .lst (.of (sub _ _ q)) (dp_all sub ds rs e')
  | .scr ds, _, _, h, e => by
    obtain ⟨xs, e', rfl⟩ := py_scr e
    obtain ⟨a, vs, rfl, q, rs⟩ := h
    exact .lst (sqL_le sub q) (dp_all sub ds rs e')
  | .dct _ _, _, _, _, e => nomatch e
  | .set _, _, _, _, e => nomatch e
  | .ins _ _ _, _, _, _, e => nomatch e
  | .exc _ _, _, _, _, e => nomatch e
  | .ref _, _, _, _, e => nomatch e
  | .fn _, _, _, _, e => nomatch e
  | .cls _, _, _, _, e => nomatch e
  | .ty _, _, _, _, e => nomatch e
theorem dp_all (sub : ∀ a o, g.hs a = some o → H a = some o) : ∀ (ds : List D) {vs : List V} {ps : List PyData}, RDs W g ds vs → pys ds = some ps → DpAll W.K H vs ps
  | [], _, _, h, e => by cases e; rw [show _ = [] from h]; exact .nil
  | d :: ds, _, _, h, e => by
    obtain ⟨x, xs, h1, h2, rfl⟩ := pys_cons e
    obtain ⟨v, vr, rfl, q1, q2⟩ := h
    exact .cons (dp_of sub d q1 h1) (dp_all sub ds q2 h2)
end
theorem reads_of (hK : X.K = W.K) (I : Inv X pins σ H s) (sub : ∀ a o, g.hs a = some o → H a = some o) {d : D} {v : V} {u : Value} {p : PyData} (h : RD W g d v) (r : RelV v u) (e : d.py = some p) : ∃ as, Reads s.heap u p as := by
  have q := dp_of (H := H) sub d h e
  rw [← hK] at q
  exact Dp.reads I p v u q r
/-- a look sees the heap -/
theorem look_rd (rs : RS W g S H) {d : D} {v : V} (r : RD W g d v) : RD W ⟨H, g.ρ, g.pn⟩ (look S d) v := by
  have l : Le0 g ⟨H, g.ρ, g.pn⟩ := ⟨rs.sub, fun _ _ h => h⟩
  unfold look
  split
  · rename_i n
    obtain ⟨a, e, rfl⟩ := r
    split
    · rename_i ds q
      obtain ⟨ho, h1, h2⟩ := rs.obj n _ a q e
      obtain ⟨vs, rfl, h3⟩ := h2
      exact ⟨a, vs, rfl, h1, h3.mono l⟩
    · rename_i ks vs q
      obtain ⟨ho, h1, h2⟩ := rs.obj n _ a q e
      obtain ⟨kv, vv, h3, h4, h5⟩ := h2
      exact ⟨a, ho, kv, vv, rfl, h1, h3, h4.mono l, h5.mono l⟩
    · exact ⟨a, e, rfl⟩
  · exact r.mono l
theorem items_ok (rs : RS W g S H) {d : D} {v : V} {ds : List D} (e : items? S d = some ds) (r : RD W g d v) : ∃ a vs, v = .ref a ∧ (SqT W.K H a vs ∨ SqL W.K H a vs) ∧ RDs W g ds vs := by
  unfold items? at e
  split at e
  · cases e
    obtain ⟨a, vs, rfl, q, r⟩ := r
    exact ⟨a, vs, rfl, .inl (sqF_le rs.sub q).T, r⟩
  · cases e
    obtain ⟨a, vs, rfl, q, r⟩ := r
    exact ⟨a, vs, rfl, .inr (.of (rs.sub _ _ q)), r⟩
  · cases e
    obtain ⟨a, vs, rfl, q, r⟩ := r
    exact ⟨a, vs, rfl, .inr (sqL_le rs.sub q), r⟩
  · rename_i n
    obtain ⟨a, e2, rfl⟩ := r
    split at e
    · rename_i q
      cases e
      obtain ⟨ho, h1, h2⟩ := rs.obj n _ a q e2
      obtain ⟨vs, rfl, h3⟩ := h2
      exact ⟨a, vs, rfl, .inr (.of h1), h3⟩
    · cases e
  · cases e
theorem dict_ok (rs : RS W g S H) {d : D} {v : V} {ks vs : List D} (e : dict? S d = some (ks, vs)) (r : RD W g d v) : ∃ a o kv vv, v = .ref a ∧ H a = some o ∧ DObj W a o ks kv vv ∧ RDs W g ks kv ∧ RDs W g vs vv := by
  unfold dict? at e
  split at e
  · cases e
    obtain ⟨a, o, kv, vv, rfl, q, t, r1, r2⟩ := r
    exact ⟨a, o, kv, vv, rfl, rs.sub _ _ q, t, r1, r2⟩
  · rename_i n
    obtain ⟨a, e2, rfl⟩ := r
    split at e
    · rename_i q
      cases e
      obtain ⟨ho, h1, h2⟩ := rs.obj n _ a q e2
      obtain ⟨kv, vv, h3, h4, h5⟩ := h2
      exact ⟨a, ho, kv, vv, rfl, h1, h3, h4, h5⟩
    · cases e
  · cases e
theorem ins_ok (rs : RS W g S H) {d : D} {v : V} {c : Nat} {fs : List Nat} {ds : List D} (e : ins? S d = some (c, fs, ds)) (r : RD W g d v) :
    ∃ a dx vs, v = .ref a ∧ H a = some (.ins (W.clA c) dx ((fs.map W.fld).zip vs)) ∧ fs.length = vs.length ∧ RDs W g ds vs := by
  unfold ins? at e
  split at e
  · cases e
    obtain ⟨a, dx, vs, rfl, q, t, r1⟩ := r
    exact ⟨a, dx, vs, rfl, rs.sub _ _ q, t, r1⟩
  · rename_i n
    obtain ⟨a, e2, rfl⟩ := r
    split at e
    · rename_i q
      cases e
      obtain ⟨ho, h1, h2⟩ := rs.obj n _ a q e2
      obtain ⟨dx, vs, rfl, t, h3⟩ := h2
      exact ⟨a, dx, vs, rfl, h1, t, h3⟩
    · cases e
  · cases e
theorem RS.fresh (rs : RS W g S H) {p : Addr} (hp : H p = none) : p ∉ g.ρ := fun hm => by
  obtain ⟨n, hn, e⟩ := List.mem_iff_getElem.mp hm
  have hs : n < S.length := by rw [← rs.len]; exact hn
  obtain ⟨ho, h1, _⟩ := rs.obj n S[n] p (by simp [hs]) (by rw [List.getElem?_eq_getElem hn, e])
  rw [hp] at h1
  cases h1
/-- something new that is frozen at once -/
theorem RS.laid (rs : RS W g S H) {p : Addr} {o : HO} (hp : H p = none) : RS W ⟨upd g.hs p o, g.ρ, g.pn⟩ S (upd H p o) ∧ Le g ⟨upd g.hs p o, g.ρ, g.pn⟩ := by
  have hg : g.hs p = none := by
    cases e : g.hs p with
    | none => rfl
    | some u => rw [rs.sub p u e] at hp; cases hp
  have le : Le g ⟨upd g.hs p o, g.ρ, g.pn⟩ := ⟨fun a u e => by
    show upd g.hs p o a = some u
    rw [upd_ne (ne_of_none e hg)]
    exact e, fun _ _ h => h, fun _ _ h => h⟩
  refine ⟨⟨rs.len, fun a u e => ?_, rs.nod, fun a ha => ?_, fun a u e => ?_, fun a u e => ?_, fun n ob a e1 e2 => ?_⟩, le⟩
  · have e : upd g.hs p o a = some u := e
    by_cases hap : a = p
    · subst hap
      rw [upd_same] at e ⊢
      exact e
    · rw [upd_ne hap] at e ⊢
      exact rs.sub a u e
  · show upd g.hs p o a = none
    rw [upd_ne fun e => rs.fresh hp (by rw [← e]; exact ha)]
    exact rs.out a ha
  · have := rs.pin a u e
    rw [upd_ne (ne_of_none this hp)]
    exact this
  · have h1 := rs.pin a u e
    obtain ⟨h2, h3⟩ := rs.pdj a u e
    refine ⟨?_, h3⟩
    show upd g.hs p o a = none
    rw [upd_ne (ne_of_none h1 hp)]
    exact h2
  · obtain ⟨ho, h1, h2⟩ := rs.obj n ob a e1 e2
    exact ⟨ho, by rw [upd_ne (ne_of_none h1 hp)]; exact h1, h2.mono le⟩
/-- something new in the store -/
theorem RS.alloc (rs : RS W g S H) {p : Addr} {o : O} {ho : HO} (hp : H p = none) (r : RO W g p o ho) : RS W ⟨g.hs, g.ρ ++ [p], g.pn⟩ (S ++ [o]) (upd H p ho) ∧ Le g ⟨g.hs, g.ρ ++ [p], g.pn⟩ := by
  have le : Le g ⟨g.hs, g.ρ ++ [p], g.pn⟩ := ⟨fun _ _ h => h, fun n a e => by
    show (g.ρ ++ [p])[n]? = some a
    rw [List.getElem?_append_left (List.getElem?_eq_some_iff.mp e).1]
    exact e, fun _ _ h => h⟩
  refine ⟨⟨by simp [rs.len], fun a u e => ?_, ?_, fun a ha => ?_, fun a u e => ?_, fun a u e => ?_, fun n ob a e1 e2 => ?_⟩, le⟩
  · have h1 := rs.sub a u e
    rw [upd_ne (ne_of_none h1 hp)]
    exact h1
  · show (g.ρ ++ [p]).Nodup
    rw [List.nodup_append]
    exact ⟨rs.nod, by simp, fun a ha b hb => by simp at hb; subst hb; exact fun e => rs.fresh hp (e ▸ ha)⟩
  · rcases List.mem_append.mp ha with ha | ha
    · exact rs.out a ha
    · simp at ha
      subst ha
      cases e : g.hs a with
      | none => rfl
      | some u => rw [rs.sub a u e] at hp; cases hp
  · have := rs.pin a u e
    rw [upd_ne (ne_of_none this hp)]
    exact this
  · have h1 := rs.pin a u e
    obtain ⟨h2, h3⟩ := rs.pdj a u e
    refine ⟨h2, fun hm => ?_⟩
    rcases List.mem_append.mp hm with hm | hm
    · exact h3 hm
    · simp at hm
      subst hm
      rw [h1] at hp
      cases hp
  · have e2 : (g.ρ ++ [p])[n]? = some a := e2
    by_cases hn : n < S.length
    · rw [List.getElem?_append_left hn] at e1
      rw [List.getElem?_append_left (by rw [rs.len]; exact hn)] at e2
      obtain ⟨hob, h1, h2⟩ := rs.obj n ob a e1 e2
      exact ⟨hob, by rw [upd_ne (ne_of_none h1 hp)]; exact h1, h2.mono le⟩
    · rw [List.getElem?_append_right (by omega)] at e1
      rw [List.getElem?_append_right (by rw [rs.len]; omega), rs.len] at e2
      have hn0 : n - S.length = 0 := by
        rcases Nat.lt_or_ge 0 (n - S.length) with h | h
        · rw [List.getElem?_eq_none (by simp; omega)] at e1; cases e1
        · omega
      rw [hn0] at e1 e2
      simp at e1 e2
      subst e1 e2
      exact ⟨ho, upd_same, r.mono le⟩
/-- a thing of the store is changed -/
theorem RS.write (rs : RS W g S H) {n : Nat} {a : Addr} {o' : O} {ho' : HO} (e : g.ρ[n]? = some a) (r : RO W g a o' ho') : RS W g (S.set n o') (upd H a ho') := by
  have hn : n < S.length := by rw [← rs.len]; exact (List.getElem?_eq_some_iff.mp e).1
  refine ⟨by simp [rs.len], fun b u e2 => ?_, rs.nod, rs.out, fun b u e2 => ?_, rs.pdj, fun m ob b e1 e2 => ?_⟩
  · have : b ≠ a := fun z => by
      subst z
      rw [rs.out b (List.mem_of_getElem? e)] at e2
      cases e2
    rw [upd_ne this]
    exact rs.sub b u e2
  · have : b ≠ a := fun z => by
      subst z
      exact (rs.pdj b u e2).2 (List.mem_of_getElem? e)
    rw [upd_ne this]
    exact rs.pin b u e2
  · rw [List.getElem?_set] at e1
    by_cases hnm : n = m
    · subst hnm
      rw [if_pos rfl, if_pos hn] at e1
      cases e1
      rw [e] at e2
      cases e2
      exact ⟨ho', upd_same, r⟩
    · rw [if_neg hnm] at e1
      obtain ⟨ho, h1, h2⟩ := rs.obj m ob b e1 e2
      have : b ≠ a := fun z => by
        subst z
        exact hnm ((List.getElem?_inj (by rw [rs.len]; exact hn) rs.nod).mp (e.trans e2.symm))
      exact ⟨ho, by rw [upd_ne this]; exact h1, h2⟩
/-- something that is being made -/
theorem RS.make (rs : RS W g S H) {p : Addr} {o : HO} (hp : H p = none) : RS W ⟨g.hs, g.ρ, upd g.pn p o⟩ S (upd H p o) ∧ Le g ⟨g.hs, g.ρ, upd g.pn p o⟩ := by
  have hn : g.pn p = none := by
    cases e : g.pn p with
    | none => rfl
    | some u => rw [rs.pin p u e] at hp; cases hp
  have l0 : Le0 g ⟨g.hs, g.ρ, upd g.pn p o⟩ := ⟨fun _ _ h => h, fun _ _ h => h⟩
  refine ⟨⟨rs.len, fun a u e => ?_, rs.nod, rs.out, fun a u e => ?_, fun a u e => ?_, fun n ob a e1 e2 => ?_⟩, l0.hs, l0.ρ, fun a u e => ?_⟩
  · have := rs.sub a u e
    rw [upd_ne (ne_of_none this hp)]
    exact this
  · have e : upd g.pn p o a = some u := e
    by_cases hap : a = p
    · subst hap
      rw [upd_same] at e ⊢
      exact e
    · rw [upd_ne hap] at e ⊢
      exact rs.pin a u e
  · have e : upd g.pn p o a = some u := e
    by_cases hap : a = p
    · subst hap
      refine ⟨?_, rs.fresh hp⟩
      show g.hs a = none
      cases e2 : g.hs a with
      | none => rfl
      | some u => rw [rs.sub a u e2] at hp; cases hp
    · rw [upd_ne hap] at e
      exact rs.pdj a u e
  · obtain ⟨ho, h1, h2⟩ := rs.obj n ob a e1 e2
    exact ⟨ho, by rw [upd_ne (ne_of_none h1 hp)]; exact h1, h2.mono l0⟩
  · show upd g.pn p o a = some u
    rw [upd_ne (ne_of_none e hn)]
    exact e
/-- it goes on being made -/
theorem RS.remake (rs : RS W g S H) {p : Addr} {o o' : HO} (hp : g.pn p = some o) : RS W ⟨g.hs, g.ρ, upd g.pn p o'⟩ S (upd H p o') := by
  have l0 : Le0 g ⟨g.hs, g.ρ, upd g.pn p o'⟩ := ⟨fun _ _ h => h, fun _ _ h => h⟩
  obtain ⟨hh, hr⟩ := rs.pdj p o hp
  refine ⟨rs.len, fun a u e => ?_, rs.nod, rs.out, fun a u e => ?_, fun a u e => ?_, fun n ob a e1 e2 => ?_⟩
  · rw [upd_ne (ne_of_none e hh)]
    exact rs.sub a u e
  · have e : upd g.pn p o' a = some u := e
    by_cases hap : a = p
    · subst hap
      rw [upd_same] at e ⊢
      exact e
    · rw [upd_ne hap] at e ⊢
      exact rs.pin a u e
  · have e : upd g.pn p o' a = some u := e
    by_cases hap : a = p
    · subst hap
      exact ⟨hh, hr⟩
    · rw [upd_ne hap] at e
      exact rs.pdj a u e
  · obtain ⟨ho, h1, h2⟩ := rs.obj n ob a e1 e2
    have : a ≠ p := fun z => hr (z ▸ List.mem_of_getElem? e2)
    exact ⟨ho, by rw [upd_ne this]; exact h1, h2.mono l0⟩
/-- without what was being made -/
def drp (h : Hp) (p : Addr) : Hp := fun a => if a = p then none else h a
theorem drp_some {h : Hp} {p a : Addr} {o : HO} (e : drp h p a = some o) : a ≠ p ∧ h a = some o := by
  unfold drp at e
  split at e
  · cases e
  · exact ⟨by assumption, e⟩
/-- it is made: a frozen thing -/
theorem RS.made (rs : RS W g S H) {p : Addr} {o o' : HO} (hp : g.pn p = some o) : RS W ⟨upd g.hs p o', g.ρ, drp g.pn p⟩ S (upd H p o') ∧ Le0 g ⟨upd g.hs p o', g.ρ, drp g.pn p⟩ := by
  obtain ⟨hh, hr⟩ := rs.pdj p o hp
  have l0 : Le0 g ⟨upd g.hs p o', g.ρ, drp g.pn p⟩ := ⟨fun a u e => by
    show upd g.hs p o' a = some u
    rw [upd_ne (ne_of_none e hh)]
    exact e, fun _ _ h => h⟩
  refine ⟨⟨rs.len, fun a u e => ?_, rs.nod, fun a ha => ?_, fun a u e => ?_, fun a u e => ?_, fun n ob a e1 e2 => ?_⟩, l0⟩
  · have e : upd g.hs p o' a = some u := e
    by_cases hap : a = p
    · subst hap
      rw [upd_same] at e ⊢
      exact e
    · rw [upd_ne hap] at e ⊢
      exact rs.sub a u e
  · show upd g.hs p o' a = none
    rw [upd_ne (fun z => by rw [z] at ha; exact hr ha)]
    exact rs.out a ha
  · obtain ⟨h1, h2⟩ := drp_some e
    rw [upd_ne h1]
    exact rs.pin a u h2
  · obtain ⟨h1, h2⟩ := drp_some e
    obtain ⟨h3, h4⟩ := rs.pdj a u h2
    exact ⟨by show upd g.hs p o' a = none; rw [upd_ne h1]; exact h3, h4⟩
  · obtain ⟨ho, h1, h2⟩ := rs.obj n ob a e1 e2
    have : a ≠ p := fun z => hr (z ▸ List.mem_of_getElem? e2)
    exact ⟨ho, by rw [upd_ne this]; exact h1, h2.mono l0⟩
/-- it is made: a thing of the store -/
theorem RS.madeS (rs : RS W g S H) {p : Addr} {o : HO} {ob' : O} {o' : HO} (hp : g.pn p = some o) (r : RO W g p ob' o') : RS W ⟨g.hs, g.ρ ++ [p], drp g.pn p⟩ (S ++ [ob']) (upd H p o') ∧ Le0 g ⟨g.hs, g.ρ ++ [p], drp g.pn p⟩ := by
  obtain ⟨hh, hr⟩ := rs.pdj p o hp
  have l0 : Le0 g ⟨g.hs, g.ρ ++ [p], drp g.pn p⟩ := ⟨fun _ _ h => h, fun n a e => by
    show (g.ρ ++ [p])[n]? = some a
    rw [List.getElem?_append_left (List.getElem?_eq_some_iff.mp e).1]
    exact e⟩
  refine ⟨⟨by simp [rs.len], fun a u e => ?_, ?_, fun a ha => ?_, fun a u e => ?_, fun a u e => ?_, fun n ob a e1 e2 => ?_⟩, l0⟩
  · rw [upd_ne (ne_of_none e hh)]
    exact rs.sub a u e
  · show (g.ρ ++ [p]).Nodup
    rw [List.nodup_append]
    exact ⟨rs.nod, by simp, fun a ha b hb => by simp at hb; subst hb; exact fun e => hr (e ▸ ha)⟩
  · rcases List.mem_append.mp ha with ha | ha
    · exact rs.out a ha
    · simp at ha
      subst ha
      exact hh
  · obtain ⟨h1, h2⟩ := drp_some e
    rw [upd_ne h1]
    exact rs.pin a u h2
  · obtain ⟨h1, h2⟩ := drp_some e
    obtain ⟨h3, h4⟩ := rs.pdj a u h2
    refine ⟨h3, fun hm => ?_⟩
    rcases List.mem_append.mp hm with hm | hm
    · exact h4 hm
    · simp at hm
      exact h1 hm
  · have e2 : (g.ρ ++ [p])[n]? = some a := e2
    by_cases hn : n < S.length
    · rw [List.getElem?_append_left hn] at e1
      rw [List.getElem?_append_left (by rw [rs.len]; exact hn)] at e2
      obtain ⟨hob, h1, h2⟩ := rs.obj n ob a e1 e2
      have : a ≠ p := fun z => hr (z ▸ List.mem_of_getElem? e2)
      exact ⟨hob, by rw [upd_ne this]; exact h1, h2.mono l0⟩
    · rw [List.getElem?_append_right (by omega)] at e1
      rw [List.getElem?_append_right (by rw [rs.len]; omega), rs.len] at e2
      have hn0 : n - S.length = 0 := by
        rcases Nat.lt_or_ge 0 (n - S.length) with h | h
        · rw [List.getElem?_eq_none (by simp; omega)] at e1; cases e1
        · omega
      rw [hn0] at e1 e2
      simp at e1 e2
      subst e1 e2
      exact ⟨o', upd_same, r.mono l0⟩
end
end Z
end

section
set_option Elab.async false
set_option linter.all false
set_option maxRecDepth 100000
set_option maxHeartbeats 4000000
/-! Z, part 4: operators by values. -/
namespace Z
open PySem PySem.W PySem.Spec PyProof.Rows L2

/-- the def f keeps what Φ tells of it -/
def FnZ (W : Wd) (Φ : Fn) (n : Nat) (f : Nat) : Prop :=
  ∀ (A : Around) (outer : List Env) (s : Shared) (H : Hp) (us : List Value) (vs : List V) (ds : List D) (g : Gh) (S : List O) (Q : VK) (Ex : XK),
    Room (2 * n + 1) A → A.guards = some [] → Env0 W.P W.w W.K W.mg W.base A outer s H → Vals vs us → RS W g S H → RDs W g ds vs → Out W Ex g (Φ f ds S) Q →
      codeAny (model W.P W.w) A (.call (.ref (W.fnA f)) ⟨us, []⟩) (CR (L2.CX W.P W.w) outer W.P W.w H s Q Ex) s
/-- a context: the law's constants, room, what may be called -/
structure Cs (W : Wd) (Φ : Fn) (n : Nat) (E : WX) (X : Cx) : Prop where
  p : X.prog = W.P
  w : X.w = W.w
  K : X.K = W.K
  mg : X.mg = W.mg
  base : X.base = W.base
  hc : X.calm = true
  nd : X.N.Nodup
  room : Room (2 * n + 2) X.A
  gd : X.A.guards = some []
  fz : ∀ f, FnZ W Φ n f
  tk : Takes X E
section
variable {W : Wd} {Φ : Fn} {n : Nat} {E : WX} {X : Cx}
theorem Cs.hu (c : Cs W Φ n E X) : X.A.units + 64 < cLine := c.room.units
theorem Cs.room0 (c : Cs W Φ n E X) : Room (2 * n + 1) X.A := c.room.mono (Nat.le_succ _)
theorem env0_at {P : Program} {w : World} {K : PySem.W.Frag} {mg : PySem.Str → Option Value} {base : Heap} {A A' : Around} {outer : List Env} {s : Shared} {H : Hp} (e : Env0 P w K mg base A outer s H) (h : A'.frames = A.frames) : Env0 P w K mg base A' outer s H :=
  ⟨h.trans e.frames, e.mod, e.bs, e.bsz, e.funs, e.frf, e.hok, e.bare⟩
/-- a call's code, seen from within -/
theorem Cs.code (c : Cs W Φ n E X) (A' : Around) (pins : List (Addr × Obj)) (s : Shared) (σ : L2.St) (H : Hp) (f : Nat) (us : List Value) (vs : List V) (ds : List D) (g : Gh) (S : List O) (Q : VK)
    (hr : Room (2 * n + 1) A') (hg : A'.guards = some []) (hf : A'.frames = X.A.frames) (I : Inv X pins σ H s) (rv : Vals vs us) (rs : RS W g S H) (rd : RDs W g ds vs) (o : Out W (fun c d H => E c d σ H) g (Φ f ds S) Q) :
    codeAny (model X.prog X.w) A' (.call (.ref (W.fnA f)) ⟨us, []⟩) (fun r s' => match r with | .ok (.ret v) => EP X pins σ Q v s' | .ok _ => False | .error e => X.xe e s') s := by
  have e0 := env0_at I.env0 hf
  rw [c.p, c.w, c.K, c.mg, c.base] at e0
  have h := c.fz f A' X.stack s H us vs ds g S Q _ hr hg e0 rv rs rd o
  rw [← c.p, ← c.w] at h
  refine codeAny_mono h fun r s' hq => ?_
  cases r with
  | error e => exact passAt c.tk σ pins H s e s' I hq
  | ok fl =>
    cases fl with
    | ret u => exact I.after hq
    | next => exact False.elim hq
    | brk => exact False.elim hq
    | cont => exact False.elim hq
theorem Cs.call (c : Cs W Φ n E X) (A' : Around) (pins : List (Addr × Obj)) (s : Shared) (σ : L2.St) (H : Hp) (f : Nat) (us : List Value) (vs : List V) (ds : List D) (g : Gh) (S : List O) (Q : VK)
    (hr : Room (2 * n + 1) A') (hg : A'.guards = some []) (hf : A'.frames = X.A.frames) (I : Inv X pins σ H s) (rv : Vals vs us) (rs : RS W g S H) (rd : RDs W g ds vs) (o : Out W (fun c d H => E c d σ H) g (Φ f ds S) Q) :
    wpAny (model X.prog X.w) A' (call (.ref (W.fnA f)) us) (EP X pins σ Q) X.xe s := wpAny_call (c.code A' pins s σ H f us vs ds g S Q hr hg hf I rv rs rd o)
end

/-- two values, then an operation -/
def rTwo (W : Wd) (E : WX) (σ : L2.St) (f : D → D → List O → R D) : R2 := fun x y H Q => ∃ g S da db, RS W g S H ∧ RD W g da x ∧ RD W g db y ∧ Out W (fun c d H => E c d σ H) g (f da db S) Q
/-- an operation on values at the slots σ -/
def OpS (X : Cx) (f : Value → Value → Sem Value) (r : L2.St → R2) : Prop :=
  ∀ (pins : List (Addr × Obj)) (s : Shared) (σ : L2.St) (H : Hp) (x y : V) (v u : Value) (Q : VK), Inv X pins σ H s → RelV x v → RelV y u → r σ x y H Q →
    wpAny (model X.prog X.w) X.A (f v u) (EP X pins σ Q) X.xe s
theorem lim_eq : lim = sizeLine := by rw [sizeLine_eq]; rfl
section
variable {W : Wd} {Φ : Fn} {n : Nat} {E : WX} {X : Cx} {T : Tab} {g : Gh} {S : List O} {H : Hp}
theorem look_cases (rs : RS W g S H) {d : D} {v : V} (r : RD W g d v) {ds : List D} (e : look S d = .lst ds) : ∃ a vs, v = .ref a ∧ H a = some (.lst vs) ∧ RDs W g ds vs := by
  unfold look at e
  split at e
  · rename_i m
    obtain ⟨a, e2, rfl⟩ := r
    split at e
    · rename_i ds' q
      cases e
      obtain ⟨ho, h1, h2⟩ := rs.obj m _ a q e2
      obtain ⟨vs, rfl, h3⟩ := h2
      exact ⟨a, vs, rfl, h1, h3⟩
    · cases e
    · cases e
  · subst e
    obtain ⟨a, vs, rfl, q, t⟩ := r
    exact ⟨a, vs, rfl, rs.sub _ _ q, t⟩
theorem OpR.toS {f : Value → Value → Sem Value} {r : R2} (h : OpR X f r) {r' : L2.St → R2} (k : ∀ σ x y H Q, r' σ x y H Q → r x y H Q) : OpS X f r' := fun pins s σ H x y v u Q I rx ry q => h pins s σ H x y v u Q I rx ry (k σ x y H Q q)
theorem OpS.at {f : Value → Value → Sem Value} {r : L2.St → R2} (h : OpS X f r) (σ : L2.St) (pins : List (Addr × Obj)) (s : Shared) (H : Hp) (x y : V) (v u : Value) (Q : VK) (I : Inv X pins σ H s) (rx : RelV x v) (ry : RelV y u) (q : r σ x y H Q) :
    wpAny (model X.prog X.w) X.A (f v u) (EP X pins σ Q) X.xe s := h pins s σ H x y v u Q I rx ry q
/-- a frozen list, a frozen tuple, made new -/
theorem new_lst (rs : RS W g S H) {ds : List D} {vs : List V} (r : RDs W g ds vs) {Q : VK} {Ex : XK} (o : Out W Ex g (.ok (.lst ds) S) Q) : ∀ p, H p = none → Q (.ref p) (upd H p (.lst vs)) := fun p hp => by
  obtain ⟨rs', le⟩ := rs.laid (o := .lst vs) hp
  exact o _ _ _ le rs' ⟨p, vs, rfl, by exact upd_same, r.mono le⟩
theorem new_tup (rs : RS W g S H) {ds : List D} {vs : List V} (r : RDs W g ds vs) {Q : VK} {Ex : XK} (o : Out W Ex g (.ok (.tup ds) S) Q) {ob : Obj} (hd : ob.dict = none) : ∀ p, H p = none → Q (.ref p) (upd H p (.frz ob (.tup vs))) := fun p hp => by
  obtain ⟨rs', le⟩ := rs.laid (o := .frz ob (.tup vs)) hp
  exact o _ _ _ le rs' ⟨p, vs, rfl, .inl ⟨ob, by exact upd_same, hd⟩, r.mono le.to0⟩
/-- the object of a tuple -/
abbrev tupO (us : List Value) : Obj := { cls := .type "tuple", data := .seq us.toArray }
theorem tup_fin {pins : List (Addr × Obj)} {s : Shared} {σ : L2.St} {us : List Value} {vs : List V} {ds : List D} {Q : VK} {Ex : XK} {t : Nat} (I : Inv X pins σ H s) (rv : Vals vs us) (hz : vs.length ≤ sizeLine) (rs : RS W g S H) (r : RDs W g ds vs) (o : Out W Ex g (.ok (.tup ds) S) Q) :
    EP X pins σ Q (.ref s.heap.objs.size) { s with heap := s.heap.push (tupO us), toks := t } := by
  have e : (s.heap.push (tupO us)).get? s.heap.objs.size = some (tupO us) := Heap.get?_push_size _ rfl
  exact ⟨.ref s.heap.objs.size, _, I.laid (t' := t) (o := .frz (tupO us) (.tup vs)) (fun b ob q => Heap.get?_push_of_some _ q) (Nat.le_refl _) ⟨e, hz, us, rv, IsTup.new _ _⟩, rfl, new_tup rs r o rfl _ (I.hok.fresh (Nat.le_refl _))⟩
/-- own operators are not known here -/
def NoOps (T : Tab) : Prop := ∀ c, T.meth.lookup (c, T.nmAdd) = none ∧ T.meth.lookup (c, T.nmSub) = none ∧ T.meth.lookup (c, T.nmOr) = none
theorem two_ints {k : Int → Int → Int} {f : Value → Value → Sem Value} {C : Int → Int → Prop} (h : OpR X f (rI C fun i j => .int (k i j))) {pins : List (Addr × Obj)} {s : Shared} {σ : L2.St} {x y : V} {v u : Value} {Q : VK} {i j : Int} {Ex : XK}
    (I : Inv X pins σ H s) (rx : RelV x v) (ry : RelV y u) (rs : RS W g S H) (ex : x = .int i) (ey : y = .int j) (hc : C i j) (o : Out W Ex g (.ok (.int (k i j)) S) Q) : wpAny (model X.prog X.w) X.A (f v u) (EP X pins σ Q) X.xe s :=
  h pins s σ H x y v u Q I rx ry ⟨i, j, ex, ey, hc, o g H _ Le.rfl' rs rfl⟩
theorem op_bin (c : Cs W Φ n E X) (no : NoOps T) {op : Operator} : OpS X (binaryOp op) (fun σ => rTwo W E σ (binD T Φ op)) := by
  intro pins s σ H x y v u Q I rx ry h
  obtain ⟨g, S, da, db, rs, ra, rb, o⟩ := h
  have own : ∀ {m : Nat} (a : D) (ds : List D), (∀ c, T.meth.lookup (c, m) = none) → ownD T Φ m a ds S = .bad := fun {m} a ds hm => by
    unfold ownD
    split
    · unfold callM
      rw [hm]
    · rfl
  unfold binD at o
  split at o
  · exact op_add pins s σ H x y v u Q I rx ry ⟨_, _, ra, rb, o g H _ Le.rfl' rs rfl⟩
  · exact op_sub pins s σ H x y v u Q I rx ry ⟨_, _, ra, rb, o g H _ Le.rfl' rs rfl⟩
  · split at o
    · rename_i hk
      exact two_ints op_mul I rx ry rs ra rb (of_decide_eq_true (p := (-(2 ^ 64) < _ ∧ _ < 2 ^ 64) ∨ (-(2 ^ 64) < _ ∧ _ < 2 ^ 64)) hk) o
    · exact o.elim
  · split at o
    · rename_i hk
      exact two_ints op_mod I rx ry rs ra rb hk o
    · exact o.elim
  · split at o
    · rename_i hk
      exact two_ints op_fdiv I rx ry rs ra rb hk o
    · exact o.elim
  · split at o
    · rename_i i j hk
      cases ra; cases rb
      obtain ⟨t, rfl⟩ := rx
      obtain ⟨t', rfl⟩ := ry
      have hb : Builtin.Int.intBits i ≤ 256 := intBits_le hk.2.2.2
      refine pow_int (by omega) ?_ ⟨.int _, H, I.tok _, ⟨_, rfl⟩, o g H _ Le.rfl' rs rfl⟩
      have h1 : (Builtin.Int.intBits i : Int) * j ≤ 256 * j := Int.mul_le_mul_of_nonneg_right (by omega) (by omega)
      omega
    · exact o.elim
  · split at o
    · rename_i hk
      exact op_add_str pins s σ H x y v u Q I rx ry ⟨_, _, ra, rb, by rw [← lim_eq]; exact hk, o g H _ Le.rfl' rs rfl⟩
    · exact o.elim
  · split at o
    · rename_i a k hk
      cases ra; cases rb
      obtain ⟨t, rfl⟩ := rx
      obtain ⟨t', rfl⟩ := ry
      refine PySem.SB.mul (mulOk_of 1000 100 hk.2.2 hk.2.1 (by omega) (by decide) (by decide)) fun t2 k2 => ⟨.str _, H, I.tok _, ⟨_, rfl⟩, o g H _ Le.rfl' rs rfl⟩
    · exact o.elim
  · split at o
    · rename_i a b hk
      obtain ⟨pa, xs, rfl, qa, r1⟩ := ra
      obtain ⟨pb, ys, rfl, qb, r2⟩ := rb
      have hl := r1.length
      have hl2 := r2.length
      cases rx; cases ry
      obtain ⟨its, v1, p1, _⟩ := I.tuple (by rw [c.K]; exact (sqF_le rs.sub qa).T)
      obtain ⟨its2, v2, p2, _⟩ := I.tuple (by rw [c.K]; exact (sqF_le rs.sub qb).T)
      have hz : xs.length + ys.length ≤ sizeLine := by rw [← lim_eq, ← hl, ← hl2]; exact hk
      by_cases e : its = []
      · subst e
        cases v1
        have : a = [] := List.length_eq_zero_iff.mp (by rw [hl]; rfl)
        subst this
        exact cat_tup0 p1 p2 ⟨.ref pb, H, I, rfl, o g H _ Le.rfl' rs ⟨pb, ys, rfl, qb, r2⟩⟩
      · refine HT.cat_tup p1 p2 e (fun z => ?_) (fun z => ?_) (by rw [← v1.length, ← v2.length]; exact hz)
        · subst z
          cases v2
          have : b = [] := List.length_eq_zero_iff.mp (by rw [hl2]; rfl)
          subst this
          rw [List.append_nil] at o
          exact ⟨.ref pa, H, I, rfl, o g H _ Le.rfl' rs ⟨pa, xs, rfl, qa, r1⟩⟩
        · exact tup_fin (t := s.toks) I (v1.append v2) (by rw [List.length_append]; exact hz) rs (r1.append r2) o
    · exact o.elim
  · split at o
    · rename_i xs ys e1 e2
      split at o
      · rename_i hk
        obtain ⟨a, vs, rfl, h1, r1⟩ := look_cases rs ra e1
        obtain ⟨b, us, rfl, h2, r2⟩ := look_cases rs rb e2
        exact op_cat pins s σ H _ _ v u Q I rx ry ⟨a, b, vs, us, rfl, rfl, h1, h2, by rw [← lim_eq, ← r1.length, ← r2.length]; exact hk, new_lst rs (r1.append r2) o⟩
      · exact o.elim
    · rw [own _ _ fun c => (no c).1] at o
      exact o.elim
  · rw [own _ _ fun c => (no c).2.1] at o
    exact o.elim
  · rw [own _ _ fun c => (no c).2.2] at o
    exact o.elim
  · exact o.elim
end
end Z
end

section
set_option Elab.async false
set_option linter.all false
set_option maxRecDepth 100000
set_option maxHeartbeats 4000000
/-! Z, part 5: dicts by values. -/
namespace Z
open PySem PySem.W PySem.Spec PyProof.Rows L2

def toKey : D → Key
  | .int i => .inl i
  | .str s => .inr s
  | _ => .inl 0
theorem keyS_cases {d : D} (h : keyS d = true) : (∃ i, d = .int i) ∨ ∃ s, d = .str s := by
  cases d with
  | int i => exact .inl ⟨i, rfl⟩
  | str s => exact .inr ⟨s, rfl⟩
  | _ => cases h
theorem all_cons {α : Type} {p : α → Bool} {a : α} {l : List α} (h : (a :: l).all p = true) : p a = true ∧ l.all p = true := Bool.and_eq_true_iff.mp (by rw [List.all_cons] at h; exact h)
section
variable {W : Wd} {g : Gh}
theorem dset_rel {x y : D} {v : V} (hx : keyS x = true) (ry : RD W g y v) : ∀ {ks vs : List D} {kvs : List (Key × V)}, RDs W g ks (kvs.map fun p => kV p.1) → RDs W g vs (kvs.map (·.2)) → ks.all keyS = true →
    (∀ {d : D} {v : V}, keyS d = true → RD W g d v → v = kV (toKey d)) → (∀ {a b : D}, keyS a = true → keyS b = true → a.eqv b = decide (toKey a = toKey b)) →
    RDs W g (dset ks vs x y) ((kvs.map fun kv => if kv.1 = toKey x then (kv.1, v) else kv).map (·.2))
  | [], vs, [], _, h2, _, _, _ => h2
  | [], _, _ :: _, h1, _, _, _, _ => by have := h1.length; simp at this
  | _ :: _, _, [], h1, _, _, _, _ => by have := h1.length; simp at this
  | k :: ks, [], p :: kvs, _, h2, _, _, _ => by have := h2.length; simp at this
  | k :: ks, d :: vs, p :: kvs, h1, h2, h3, f1, f2 => by
    obtain ⟨ka, kall⟩ := all_cons h3
    obtain ⟨_, _, e1, r1, r2⟩ := h1
    obtain ⟨_, _, e2, r3, r4⟩ := h2
    simp only [List.map_cons, List.cons.injEq] at e1 e2
    obtain ⟨rfl, rfl⟩ := e1
    obtain ⟨rfl, rfl⟩ := e2
    have hp : p.1 = toKey k := kV_inj (f1 ka r1)
    refine ⟨_, _, rfl, ?_, dset_rel hx ry r2 r4 kall f1 f2⟩
    rw [f2 ka hx, ← hp]
    show RD W g _ (if p.1 = toKey x then (p.1, v) else p).2
    by_cases e : p.1 = toKey x
    · rw [decide_eq_true e, if_pos rfl, if_pos e]
      exact ry
    · rw [decide_eq_false e, if_neg Bool.false_ne_true, if_neg e]
      exact r3
theorem rd_key {d : D} {v : V} (h : keyS d = true) (r : RD W g d v) : v = kV (toKey d) := by
  rcases keyS_cases h with ⟨i, rfl⟩ | ⟨s, rfl⟩ <;> exact r
theorem key_rd {d : D} (h : keyS d = true) : RD W g d (kV (toKey d)) := by
  rcases keyS_cases h with ⟨i, rfl⟩ | ⟨s, rfl⟩ <;> exact rfl
theorem toKey_inj {a b : D} (ha : keyS a = true) (hb : keyS b = true) (e : toKey a = toKey b) : a = b := by
  rcases keyS_cases ha with ⟨i, rfl⟩ | ⟨s, rfl⟩ <;> rcases keyS_cases hb with ⟨j, rfl⟩ | ⟨t, rfl⟩ <;> first
    | (have q := Sum.inl.inj e; rw [q])
    | (have q := Sum.inr.inj e; rw [q])
    | exact nomatch e
theorem eqv_key {a b : D} (ha : keyS a = true) (hb : keyS b = true) : a.eqv b = decide (toKey a = toKey b) := by
  rcases keyS_cases ha with ⟨i, rfl⟩ | ⟨s, rfl⟩ <;> rcases keyS_cases hb with ⟨j, rfl⟩ | ⟨t, rfl⟩
  · show (i == j) = _
    rw [Bool.beq_eq_decide_eq]
    exact decide_eq_decide.mpr ⟨fun e => by rw [show toKey (.int i) = Sum.inl i from rfl, e]; rfl, fun e => Sum.inl.inj e⟩
  · show false = _
    exact (decide_eq_false fun e => nomatch e).symm
  · show false = _
    exact (decide_eq_false fun e => nomatch e).symm
  · show (s == t) = _
    rw [Bool.beq_eq_decide_eq]
    exact decide_eq_decide.mpr ⟨fun e => by rw [show toKey (.str s) = Sum.inr s from rfl, e]; rfl, fun e => Sum.inr.inj e⟩
/-- keys by value: the pairs of a dict -/
structure KRel (W : Wd) (g : Gh) (ks vs : List D) (kvs : List (Key × V)) : Prop where
  fk : RDs W g ks (kvs.map fun p => kV p.1)
  fv : RDs W g vs (kvs.map (·.2))
  fa : ks.all keyS = true
theorem KRel.get : ∀ {ks vs : List D} {kvs : List (Key × V)} (r : KRel W g ks vs kvs) {x : D} (hx : keyS x = true),
    (∀ d, dget ks vs x = some d → ∃ v, valV kvs (toKey x) = some v ∧ RD W g d v) ∧ (dget ks vs x = none → valV kvs (toKey x) = none)
  | [], vs, [], r, x, hx => ⟨fun d h => by simp [dget] at h, fun _ => rfl⟩
  | [], vs, p :: kvs, r, _, _ => by have := r.fk.length; simp at this
  | k :: ks, [], kvs, r, _, _ => by
    have h1 := r.fk.length
    have h2 := r.fv.length
    simp at h1 h2
    omega
  | k :: ks, v :: vs, [], r, _, _ => by have := r.fk.length; simp at this
  | k :: ks, v :: vs, (p, w) :: kvs, r, x, hx => by
    obtain ⟨ka, kall⟩ := all_cons r.fa
    obtain ⟨_, _, e1, r1, r2⟩ := r.fk
    obtain ⟨_, _, e2, r3, r4⟩ := r.fv
    simp only [List.map_cons, List.cons.injEq] at e1 e2
    obtain ⟨rfl, rfl⟩ := e1
    obtain ⟨rfl, rfl⟩ := e2
    have hp : p = toKey k := kV_inj (rd_key ka r1)
    have ih := KRel.get (ks := ks) (vs := vs) (kvs := kvs) ⟨r2, r4, kall⟩ hx
    have ev := eqv_key ka hx
    have hd : dget (k :: ks) (v :: vs) x = if k.eqv x then some v else dget ks vs x := rfl
    rw [hd]
    by_cases e : p = toKey x
    · rw [hp] at e
      rw [ev, decide_eq_true e, if_pos rfl]
      refine ⟨fun d hd => ?_, fun hd => by cases hd⟩
      cases hd
      exact ⟨w, valV_pos (hp.trans e), r3⟩
    · have e' : ¬ toKey k = toKey x := fun z => e (hp.trans z)
      rw [ev, decide_eq_false e', if_neg Bool.false_ne_true, valV_neg e]
      exact ih
theorem KRel.any {ks vs : List D} {kvs : List (Key × V)} (r : KRel W g ks vs kvs) {x : D} (hx : keyS x = true) : (ks.any fun k => k.eqv x) = kvs.any fun kv => decide (kv.1 = toKey x) := by
  obtain ⟨h1, h2, h3⟩ := r
  clear h2
  induction ks generalizing kvs with
  | nil =>
    have := h1.length
    cases kvs with
    | nil => rfl
    | cons p r => simp at this
  | cons k ks ih =>
    cases kvs with
    | nil => have := h1.length; simp at this
    | cons p kvs =>
      obtain ⟨ka, kall⟩ := all_cons h3
      obtain ⟨_, _, e1, r1, r2⟩ := h1
      simp only [List.map_cons, List.cons.injEq] at e1
      obtain ⟨rfl, rfl⟩ := e1
      have hp : p.1 = toKey k := kV_inj (rd_key ka r1)
      simp only [List.any_cons]
      rw [eqv_key ka hx, ih r2 (kall), hp]
theorem KRel.put {ks vs : List D} {kvs : List (Key × V)} (r : KRel W g ks vs kvs) {x y : D} {v : V} (hx : keyS x = true) (ry : RD W g y v) : KRel W g (dput ks vs x y).1 (dput ks vs x y).2 (putK kvs (toKey x) v) := by
  unfold dput putK
  rw [← r.any hx]
  split
  · refine ⟨?_, ?_, r.fa⟩
    · have : (List.map (fun kv : Key × V => if kv.1 = toKey x then (kv.1, v) else kv) kvs).map (fun p => kV p.1) = kvs.map fun p => kV p.1 := by
        rw [List.map_map]
        refine List.map_congr_left fun p _ => ?_
        show kV (if p.1 = toKey x then (p.1, v) else p).1 = kV p.1
        split <;> rfl
      rw [this]
      exact r.fk
    · exact dset_rel hx ry r.fk r.fv r.fa (fun h r => rd_key h r) fun h1 h2 => eqv_key h1 h2
  · refine ⟨?_, ?_, ?_⟩
    · show RDs W g (ks ++ [x]) _
      rw [List.map_append]
      exact r.fk.append ⟨_, [], rfl, key_rd hx, rfl⟩
    · show RDs W g (vs ++ [y]) _
      rw [List.map_append]
      exact r.fv.append ⟨_, [], rfl, ry, rfl⟩
    · show (ks ++ [x]).all keyS = true
      rw [List.all_append, r.fa]
      simp [hx]
theorem KRel.mono {g' : Gh} (l : Le g g') {ks vs : List D} {kvs : List (Key × V)} (r : KRel W g ks vs kvs) : KRel W g' ks vs kvs := ⟨r.fk.mono l, r.fv.mono l, r.fa⟩
theorem KRel.obj {ks vs : List D} {kvs : List (Key × V)} (r : KRel W g ks vs kvs) (a : Addr) : DObj W a (.dK kvs) ks (kvs.map fun p => kV p.1) (kvs.map (·.2)) := .inl ⟨kvs, rfl, rfl, rfl, r.fa⟩
/-- keys that are ints and texts: the plain rep -/
theorem dobj_S {a : Addr} {o : HO} {ks vs : List D} {kv vv : List V} (h : DObj W a o ks kv vv) (hk : RDs W g ks kv) (hv : RDs W g vs vv) (all : ks.all keyS = true) : ∃ kvs, o = .dK kvs ∧ KRel W g ks vs kvs := by
  rcases h with ⟨kvs, rfl, rfl, rfl, _⟩ | ⟨ob, xs, es, ep, _, _, _, _, _, _, _, _, _, hne, hT⟩
  · exact ⟨kvs, rfl, hk, hv, all⟩
  · cases ks with
    | nil => exact absurd rfl hne
    | cons k ks =>
      simp only [List.all_cons, Bool.and_eq_true] at all hT
      rcases keyS_cases all.1 with ⟨i, rfl⟩ | ⟨s, rfl⟩ <;> exact absurd hT.1 (by simp [keyT])
end
end Z
end

section
set_option Elab.async false
set_option linter.all false
set_option maxRecDepth 100000
set_option maxHeartbeats 4000000
/-! Z, part 5b: dicts by values whose keys are tuples (nested). -/
namespace Z
open PySem PySem.W PySem.Spec PyProof.Rows L2 PySem.SeqAt
mutual
theorem keyN_dep : ∀ (m : Nat) (d : D), keyN m d = true → (nk d).depth ≤ m + 1
  | m, .str _, _ => by simp [nk, NestedKey.depth]
  | m, .int _, _ => by simp [nk, NestedKey.depth]
  | 0, .tup ds, h => by simp [keyN] at h
  | m + 1, .tup ds, h => by
    have h' : keyNs m ds = true := by simpa [keyN] using h
    have := keyNs_dep m ds h'
    simp only [nk, NestedKey.depth]
    omega
  | m, .non, h => by cases m <;> simp [keyN] at h
  | m, .bl _, h => by cases m <;> simp [keyN] at h
  | m, .lst _, h => by cases m <;> simp [keyN] at h
  | m, .dct _ _, h => by cases m <;> simp [keyN] at h
  | m, .set _, h => by cases m <;> simp [keyN] at h
  | m, .scr _, h => by cases m <;> simp [keyN] at h
  | m, .ins _ _ _, h => by cases m <;> simp [keyN] at h
  | m, .exc _ _, h => by cases m <;> simp [keyN] at h
  | m, .ref _, h => by cases m <;> simp [keyN] at h
  | m, .fn _, h => by cases m <;> simp [keyN] at h
  | m, .cls _, h => by cases m <;> simp [keyN] at h
  | m, .ty _, h => by cases m <;> simp [keyN] at h
theorem keyNs_dep : ∀ (m : Nat) (ds : List D), keyNs m ds = true → NestedKey.depthAll (nks ds) ≤ m + 1
  | m, [], _ => by simp [nks, NestedKey.depthAll]
  | m, d :: ds, h => by
    have h' : keyN m d = true ∧ keyNs m ds = true := by simpa [keyNs] using h
    have h1 := keyN_dep m d h'.1
    have h2 := keyNs_dep m ds h'.2
    simp only [nks, NestedKey.depthAll]
    omega
end
inductive KeyLike : D → Prop
  | str (s) : KeyLike (.str s)
  | int (i) : KeyLike (.int i)
  | tup (ds) : KeyLike (.tup ds)
theorem keyN_like {m : Nat} {d : D} (h : keyN m d = true) : KeyLike d := by
  cases d <;> first
    | exact .str _
    | exact .int _
    | exact .tup _
    | (cases m <;> simp [keyN] at h)
theorem keyN_tup {m : Nat} {ds : List D} (h : keyN m (.tup ds) = true) : ∃ k, keyNs k ds = true ∧ m = k + 1 := by
  cases m with
  | zero => simp [keyN] at h
  | succ m => exact ⟨m, by simpa [keyN] using h, rfl⟩
theorem keyNs_cons {m : Nat} {d : D} {ds : List D} (h : keyNs m (d :: ds) = true) : keyN m d = true ∧ keyNs m ds = true := by simpa [keyNs] using h
theorem keyT_tup {d : D} (h : keyT d = true) : ∃ ds, d = .tup ds ∧ keyNs 6 ds = true := by
  cases d <;> first
    | exact ⟨_, rfl, h⟩
    | cases h
mutual
theorem eqv_nk : ∀ (a b : D) {m k : Nat}, keyN m a = true → keyN k b = true → (a.eqv b = true ↔ nk a = nk b)
  | .str s, b, m, k, ha, hb => by
    cases keyN_like hb with
    | str t => simp only [D.eqv, nk, beq_iff_eq, NestedKey.text.injEq]
    | int i => simp [D.eqv, nk]
    | tup ds => simp [D.eqv, nk]
  | .int i, b, m, k, ha, hb => by
    cases keyN_like hb with
    | str t => simp [D.eqv, nk]
    | int j => simp only [D.eqv, nk, beq_iff_eq, NestedKey.num.injEq]
    | tup ds => simp [D.eqv, nk]
  | .tup xs, b, m, k, ha, hb => by
    cases keyN_like hb with
    | str t => simp [D.eqv, nk]
    | int j => simp [D.eqv, nk]
    | tup ys =>
      obtain ⟨m', h1, _⟩ := keyN_tup ha
      obtain ⟨k', h2, _⟩ := keyN_tup hb
      simp only [D.eqv, nk, NestedKey.tup.injEq]
      exact eqvs_nks xs ys h1 h2
  | .non, _, m, _, h, _ => by cases keyN_like h
  | .bl _, _, m, _, h, _ => by cases keyN_like h
  | .lst _, _, m, _, h, _ => by cases keyN_like h
  | .dct _ _, _, m, _, h, _ => by cases keyN_like h
  | .set _, _, m, _, h, _ => by cases keyN_like h
  | .scr _, _, m, _, h, _ => by cases keyN_like h
  | .ins _ _ _, _, m, _, h, _ => by cases keyN_like h
  | .exc _ _, _, m, _, h, _ => by cases keyN_like h
  | .ref _, _, m, _, h, _ => by cases keyN_like h
  | .fn _, _, m, _, h, _ => by cases keyN_like h
  | .cls _, _, m, _, h, _ => by cases keyN_like h
  | .ty _, _, m, _, h, _ => by cases keyN_like h
theorem eqvs_nks : ∀ (xs ys : List D) {m k : Nat}, keyNs m xs = true → keyNs k ys = true → (eqvs xs ys = true ↔ nks xs = nks ys)
  | [], ys, _, _, _, _ => by cases ys <;> simp [eqvs, nks]
  | x :: xs, ys, m, k, h1, h2 => by
    cases ys with
    | nil => simp [eqvs, nks]
    | cons y ys =>
      have q1 := keyNs_cons h1
      have q2 := keyNs_cons h2
      simp only [eqvs, nks, Bool.and_eq_true, List.cons.injEq]
      rw [eqv_nk x y q1.1 q2.1, eqvs_nks xs ys q1.2 q2.2]
end
theorem eqv_T {a b : D} (ha : keyT a = true) (hb : keyT b = true) : a.eqv b = decide (nk a = nk b) := by
  obtain ⟨xs, rfl, h1⟩ := keyT_tup ha
  obtain ⟨ys, rfl, h2⟩ := keyT_tup hb
  have : (D.tup xs).eqv (.tup ys) = true ↔ nk (.tup xs) = nk (.tup ys) := by
    simp only [D.eqv, nk, NestedKey.tup.injEq]
    exact eqvs_nks xs ys h1 h2
  by_cases h : nk (.tup xs) = nk (.tup ys)
  · rw [decide_eq_true h, this.mpr h]
  · rw [decide_eq_false h]
    exact Bool.eq_false_iff.mpr fun e => h (this.mp e)
section
variable {W : Wd} {X : Cx} {g : Gh} {S : List O} {H : Hp} {pins : List (Addr × Obj)} {σ : L2.St} {s : Shared}
mutual
theorem nested_of (hK : X.K = W.K) (I : Inv X pins σ H s) (sub : ∀ a o, g.hs a = some o → H a = some o) : ∀ (d : D) {m : Nat} {v : V} {u : Value}, keyN m d = true → RD W g d v → RelV v u → NestedIs s.heap (nk d) u
  | .str x, m, v, u, h, r, rv => by cases r; obtain ⟨t, rfl⟩ := rv; exact .text x t
  | .int i, m, v, u, h, r, rv => by cases r; obtain ⟨t, rfl⟩ := rv; exact .int i t
  | .tup ds, m, v, u, h, r, rv => by
    obtain ⟨k, hk, _⟩ := keyN_tup h
    obtain ⟨a, vs, rfl, q, rs⟩ := r
    cases rv
    obtain ⟨its, rvs, ⟨o, h1, h2, n, h3⟩, _⟩ := I.tuple (by rw [hK]; exact (sqF_le sub q).T)
    exact .tup h1 h2 h3 (by simpa using nested_all hK I sub ds hk rs rvs)
  | .non, m, _, _, h, _, _ => by cases keyN_like h
  | .bl _, m, _, _, h, _, _ => by cases keyN_like h
  | .lst _, m, _, _, h, _, _ => by cases keyN_like h
  | .dct _ _, m, _, _, h, _, _ => by cases keyN_like h
  | .set _, m, _, _, h, _, _ => by cases keyN_like h
  | .scr _, m, _, _, h, _, _ => by cases keyN_like h
  | .ins _ _ _, m, _, _, h, _, _ => by cases keyN_like h
  | .exc _ _, m, _, _, h, _, _ => by cases keyN_like h
  | .ref _, m, _, _, h, _, _ => by cases keyN_like h
  | .fn _, m, _, _, h, _, _ => by cases keyN_like h
  | .cls _, m, _, _, h, _, _ => by cases keyN_like h
  | .ty _, m, _, _, h, _, _ => by cases keyN_like h
theorem nested_all (hK : X.K = W.K) (I : Inv X pins σ H s) (sub : ∀ a o, g.hs a = some o → H a = some o) : ∀ (ds : List D) {m : Nat} {vs : List V} {us : List Value}, keyNs m ds = true → RDs W g ds vs → Vals vs us → NestedAll s.heap (nks ds) us
  | [], m, vs, us, h, r, rv => by
    rw [show vs = [] from r] at rv
    cases rv
    exact .nil
  | d :: ds, m, vs, us, h, r, rv => by
    have hk := keyNs_cons h
    obtain ⟨v, vr, rfl, r1, r2⟩ := r
    cases rv with
    | cons a b => exact .cons (nested_of hK I sub d hk.1 r1 a) (nested_all hK I sub ds hk.2 r2 b)
end
/-- a key that is a tuple -/
theorem key_is (hK : X.K = W.K) (I : Inv X pins σ H s) (sub : ∀ a o, g.hs a = some o → H a = some o) {d : D} {v : V} {u : Value} (h : keyT d = true) (r : RD W g d v) (rv : RelV v u) : ∃ b, v = .ref b ∧ u = .ref b ∧ (nestedKind W.P W.w).is s.heap (nk d) b := by
  obtain ⟨ds, rfl, hk⟩ := keyT_tup h
  obtain ⟨a, vs, rfl, q, rs⟩ := id r
  obtain rfl : u = Value.ref a := rv
  refine ⟨a, rfl, rfl, ?_, ?_⟩
  · have h7 : keyN 7 (.tup ds) = true := by simpa [keyN] using hk
    exact nested_of hK I sub (.tup ds) h7 r rfl
  · have := keyNs_dep 6 ds hk
    simp only [nk, NestedKey.depth]
    omega
/-- a dict by its tuples -/
structure KT (W : Wd) (g : Gh) (h : Heap) (a : Addr) (ks vs : List D) (xs : List (NestedKey × Addr × Value)) : Prop where
  of : h.DictOfH (nestedKind W.P W.w) a xs
  nS : (a == sysModules) = false
  fk : RDs W g ks (xs.map fun x => V.ref x.2.1)
  fv : ∃ vv, Vals vv (xs.map (·.2.2)) ∧ RDs W g vs vv
  kk : xs.map (·.1) = nks ks
  all : ks.all keyT = true
theorem nks_length : ∀ ds : List D, (nks ds).length = ds.length
  | [] => rfl
  | d :: ds => by show (nks ds).length + 1 = _; rw [nks_length ds]; rfl
theorem KT.len {h : Heap} {a : Addr} {ks vs : List D} {xs : List (NestedKey × Addr × Value)} (k : KT W g h a ks vs xs) : xs.length = ks.length := by
  have := congrArg List.length k.kk
  rwa [List.length_map, nks_length] at this
theorem nks_get : ∀ (ds : List D) (i : Nat), (nks ds)[i]? = (ds[i]?).map nk
  | [], i => by simp [nks]
  | d :: ds, 0 => by simp [nks]
  | d :: ds, i + 1 => by simpa [nks] using nks_get ds i
/-- the dict at a, as its object tells -/
theorem dobj_T (hK : X.K = W.K) (hP : X.prog = W.P) (hw : X.w = W.w) (I : Inv X pins σ H s) (sub : ∀ a o, g.hs a = some o → H a = some o) {a : Addr} {o : HO} {ks vs : List D} {kv vv : List V} (ha : H a = some o) (hd : DObj W a o ks kv vv) (rk : RDs W g ks kv) (rv : RDs W g vs vv) (all : ks.all keyT = true) :
    ∃ xs, KT W g s.heap a ks vs xs := by
  rcases hd with ⟨kvs, rfl, rfl, rfl, hS⟩ | ⟨ob, xs, es, ep, rfl, nS, hE, hdata, hes, hnd, rfl, hvv, hnk, hne, _⟩
  · have : ks = [] := by
      cases ks with
      | nil => rfl
      | cons k ks =>
        have h1 := (all_cons hS).1
        have h2 := (all_cons all).1
        obtain ⟨ds, rfl, _⟩ := keyT_tup h2
        simp [keyS] at h1
    subst this
    have hl := rk.length
    rw [List.length_map] at hl
    have : kvs = [] := List.length_eq_zero_iff.mp hl.symm
    subst this
    obtain ⟨_, nS, ws, hkv, o, es, ep, h1, h2, h3, h4, h5, _⟩ := dk_of I.hok ha
    have hws : ws = [] := by
      cases hkv
      rfl
    subst hws
    have h6 : es.toList = [] := by
      generalize es.toList = l at h5
      cases h5
      rfl
    exact ⟨[], ⟨o, es, ep, h1, h2, h3, by simpa using h6, by simp, by simp⟩, nS, rk, ⟨[], .nil, rv⟩, rfl, rfl⟩
  · have hob : s.heap.get? a = some ob := (I.hok a _ ha).1
    refine ⟨xs, ⟨ob, es, ep, hob, hE, hdata, hes, fun x hx => ?_, hnd⟩, nS, rk, ⟨vv, hvv, rv⟩, hnk, all⟩
    obtain ⟨i, hi⟩ := List.mem_iff_getElem?.mp hx
    have h1 : (xs.map fun x => V.ref x.2.1)[i]? = some (.ref x.2.1) := by rw [List.getElem?_map, hi]; rfl
    obtain ⟨d, hd, rd⟩ := rk.getV h1
    have hk : keyT d = true := List.all_eq_true.mp all d (List.mem_of_getElem? hd)
    obtain ⟨b, e1, e2, e3⟩ := key_is (u := .ref x.2.1) hK I sub hk rd rfl
    have e1' : x.2.1 = b := by injection e1
    have hn : (xs.map (·.1))[i]? = some x.1 := by rw [List.getElem?_map, hi]; rfl
    rw [hnk, nks_get, hd] at hn
    have hn' : nk d = x.1 := by simpa using hn
    rw [← hn', e1']
    exact e3
theorem getT {x : D} (hx : keyT x = true) : ∀ {ks vs : List D} {xs : List (NestedKey × Addr × Value)} {vv : List V}, xs.map (·.1) = nks ks → ks.all keyT = true → Vals vv (xs.map (·.2.2)) → RDs W g vs vv →
    (∀ d, dget ks vs x = some d → ∃ p v, atKey xs (nk x) = some p ∧ RelV v p.2 ∧ RD W g d v) ∧ (dget ks vs x = none → atKey xs (nk x) = none)
  | [], vs, [], vv, _, _, _, _ => ⟨fun d hd => by simp [dget] at hd, fun _ => rfl⟩
  | [], vs, p :: xs, vv, h, _, _, _ => by simp [nks] at h
  | c :: ks, vs, [], vv, h, _, _, _ => by simp [nks] at h
  | c :: ks, vs, p :: xs, vv, h, all, h1, h2 => by
    simp only [List.map_cons, nks, List.cons.injEq] at h
    obtain ⟨hc, hall⟩ := all_cons all
    cases vv with
    | nil => cases h1
    | cons v vv =>
      cases h1 with
      | cons hv hvv =>
        have hvs := h2.length
        cases vs with
        | nil => simp at hvs
        | cons w vs =>
          obtain ⟨_, _, e, r1, r2⟩ := h2
          cases e
          have ih := getT hx h.2 hall hvv r2
          have ev := eqv_T hc hx
          simp only [dget]
          by_cases e : nk c = nk x
          · rw [ev, decide_eq_true e, if_pos rfl]
            have hat : atKey (p :: xs) (nk x) = some p.2 := by
              unfold atKey
              rw [List.find?_cons, show decide (p.1 = nk x) = true from decide_eq_true (h.1.trans e)]
              rfl
            exact ⟨fun d hd => by cases hd; exact ⟨p.2, v, hat, hv, r1⟩, fun hd => by cases hd⟩
          · rw [ev, decide_eq_false e, if_neg Bool.false_ne_true]
            have hat : atKey (p :: xs) (nk x) = atKey xs (nk x) := by
              unfold atKey
              rw [List.find?_cons, show decide (p.1 = nk x) = false from decide_eq_false fun z => e (h.1.symm.trans z)]
            rw [hat]
            exact ih
theorem anyT {x : D} (hx : keyT x = true) : ∀ {ks : List D} {xs : List (NestedKey × Addr × Value)}, xs.map (·.1) = nks ks → ks.all keyT = true → (ks.any fun c => c.eqv x) = (atKey xs (nk x)).isSome
  | [], [], _, _ => rfl
  | [], p :: xs, h, _ => by simp [nks] at h
  | c :: ks, [], h, _ => by simp [nks] at h
  | c :: ks, p :: xs, h, all => by
    simp only [List.map_cons, nks, List.cons.injEq] at h
    obtain ⟨hc, hall⟩ := all_cons all
    rw [List.any_cons, eqv_T hc hx]
    by_cases e : nk c = nk x
    · have hat : atKey (p :: xs) (nk x) = some p.2 := by
        unfold atKey
        rw [List.find?_cons, show decide (p.1 = nk x) = true from decide_eq_true (h.1.trans e)]
        rfl
      rw [hat, decide_eq_true e]
      rfl
    · have hat : atKey (p :: xs) (nk x) = atKey xs (nk x) := by
        unfold atKey
        rw [List.find?_cons, show decide (p.1 = nk x) = false from decide_eq_false fun z => e (h.1.symm.trans z)]
      rw [hat, decide_eq_false e, Bool.false_or]
      exact anyT hx h.2 hall
theorem KT.get {h : Heap} {a : Addr} {ks vs : List D} {xs : List (NestedKey × Addr × Value)} (k : KT W g h a ks vs xs) {x : D} (hx : keyT x = true) :
    (∀ d, dget ks vs x = some d → ∃ p v, atKey xs (nk x) = some p ∧ RelV v p.2 ∧ RD W g d v) ∧ (dget ks vs x = none → atKey xs (nk x) = none) := by
  obtain ⟨_, _, _, ⟨vv, hvv, rv⟩, hnk, all⟩ := k
  exact getT hx hnk all hvv rv
theorem KT.any {h : Heap} {a : Addr} {ks vs : List D} {xs : List (NestedKey × Addr × Value)} (k : KT W g h a ks vs xs) {x : D} (hx : keyT x = true) : (ks.any fun c => c.eqv x) = (atKey xs (nk x)).isSome := anyT hx k.kk k.all
theorem vals_app : ∀ {vs ws : List V} {us zs : List Value}, Vals vs us → Vals ws zs → Vals (vs ++ ws) (us ++ zs) := fun a b => a.append b
theorem nks_app : ∀ (xs ys : List D), nks (xs ++ ys) = nks xs ++ nks ys
  | [], _ => rfl
  | x :: xs, ys => by show nk x :: nks (xs ++ ys) = _; rw [nks_app xs ys]; rfl
/-- the values behind a store -/
theorem putT_vals {x y : D} {v : V} {u : Value} (hx : keyT x = true) (ry : RD W g y v) (rv : RelV v u) : ∀ {ks vs : List D} {xs : List (NestedKey × Addr × Value)} {vv : List V}, xs.map (·.1) = nks ks → ks.all keyT = true → Vals vv (xs.map (·.2.2)) → RDs W g vs vv →
    ∃ vv', Vals vv' ((xs.map (putAt (nk x) u)).map (·.2.2)) ∧ RDs W g (dset ks vs x y) vv'
  | [], vs, [], vv, _, _, h1, h2 => ⟨vv, h1, by simpa [dset] using h2⟩
  | [], vs, p :: xs, vv, h, _, _, _ => by simp [nks] at h
  | c :: ks, vs, [], vv, h, _, _, _ => by simp [nks] at h
  | c :: ks, vs, p :: xs, vv, h, all, h1, h2 => by
    simp only [List.map_cons, nks, List.cons.injEq] at h
    obtain ⟨hc, hall⟩ := all_cons all
    cases vv with
    | nil => cases h1
    | cons v0 vv =>
      cases h1 with
      | cons hv hvv =>
        have hvs := h2.length
        cases vs with
        | nil => simp at hvs
        | cons w vs =>
          obtain ⟨_, _, e, r1, r2⟩ := h2
          cases e
          obtain ⟨vv', q1, q2⟩ := putT_vals hx ry rv h.2 hall hvv r2
          simp only [dset, List.map_cons]
          by_cases e : nk c = nk x
          · rw [eqv_T hc hx, decide_eq_true e, if_pos rfl]
            have hp : (putAt (nk x) u p).2.2 = u := by unfold putAt; rw [if_pos (h.1.trans e)]
            rw [hp]
            exact ⟨v :: vv', .cons rv q1, RDs.cons ry q2⟩
          · rw [eqv_T hc hx, decide_eq_false e, if_neg Bool.false_ne_true]
            have hp : (putAt (nk x) u p).2.2 = p.2.2 := by unfold putAt; rw [if_neg fun z => e (h.1.symm.trans z)]
            rw [hp]
            exact ⟨v0 :: vv', .cons hv q1, RDs.cons r1 q2⟩
theorem KT.put {h h' : Heap} {a b : Addr} {ks vs : List D} {xs : List (NestedKey × Addr × Value)} (k : KT W g h a ks vs xs) {x y : D} {v : V} {u : Value} (hx : keyT x = true) (rx : RD W g x (.ref b)) (ry : RD W g y v) (rv : RelV v u)
    (hm : h'.DictOfH (nestedKind W.P W.w) a (storedH xs (nk x) b u)) : KT W g h' a (dput ks vs x y).1 (dput ks vs x y).2 (storedH xs (nk x) b u) := by
  have ha := k.any hx
  obtain ⟨_, nS, fk, ⟨vv, hvv, fv⟩, hnk, all⟩ := k
  unfold dput
  by_cases e : (atKey xs (nk x)).isSome = true
  · have es : storedH xs (nk x) b u = xs.map (putAt (nk x) u) := by unfold storedH; rw [if_pos e]
    rw [ha, e, if_pos rfl]
    obtain ⟨vv', q1, q2⟩ := putT_vals hx ry rv hnk all hvv fv
    refine ⟨hm, nS, ?_, ⟨vv', by rw [es]; exact q1, q2⟩, ?_, all⟩
    · rw [es]
      have : (xs.map (putAt (nk x) u)).map (fun x => V.ref x.2.1) = xs.map fun x => V.ref x.2.1 := by
        rw [List.map_map]
        refine List.map_congr_left fun p _ => ?_
        show V.ref (putAt (nk x) u p).2.1 = _
        unfold putAt
        split <;> rfl
      rw [this]
      exact fk
    · rw [es, keys_map_putAt]
      exact hnk
  · have e' : (atKey xs (nk x)).isSome = false := by simpa using e
    have es : storedH xs (nk x) b u = xs ++ [(nk x, b, u)] := by unfold storedH; rw [if_neg e]
    rw [ha, e', if_neg Bool.false_ne_true]
    refine ⟨hm, nS, ?_, ⟨vv ++ [v], ?_, fv.append (RDs.cons ry RDs.nil)⟩, ?_, ?_⟩
    · rw [es, List.map_append]
      exact fk.append (RDs.cons rx RDs.nil)
    · rw [es, List.map_append]
      exact hvv.append (.cons rv .nil)
    · rw [es, List.map_append, nks_app, hnk]
      rfl
    · show (ks ++ [x]).all keyT = true
      rw [List.all_append, all]
      simp [hx]
theorem dput_ne (ks vs : List D) (x y : D) : (dput ks vs x y).1 ≠ [] := by
  unfold dput
  split
  · rename_i h
    intro e
    have e' : ks = [] := e
    subst e'
    simp at h
  · intro e
    have e' : ks ++ [x] = [] := e
    simp at e'
/-- what it is for the hand layer -/
theorem KT.ro {h : Heap} {a : Addr} {ks vs : List D} {xs : List (NestedKey × Addr × Value)} (k : KT W g h a ks vs xs) (hne : ks ≠ []) : ∃ ob, h.get? a = some ob ∧ RO W g a (.dct ks vs) (.ext fun h => h.get? a = some ob) := by
  obtain ⟨⟨o, es, ep, h1, h2, h3, h4, h5, h6⟩, nS, fk, ⟨vv, hvv, fv⟩, hnk, all⟩ := k
  exact ⟨o, h1, _, vv, .inr ⟨o, xs, es, ep, rfl, nS, h2, h3, h4, h6, rfl, hvv, hnk, hne, all⟩, fk, fv⟩
theorem mut_dobj {a : Addr} {o : HO} {ks : List D} {kv vv : List V} (h : DObj W a o ks kv vv) : Mut (some o) := by
  rcases h with ⟨kvs, rfl, _⟩ | ⟨ob, xs, es, ep, rfl, _⟩ <;> trivial
/-- a dict of the store is changed -/
theorem put_T (I : Inv X pins σ H s) (rs : RS W g S H) {n : Nat} {a : Addr} {o : HO} {kv vv : List V} {ks ks' vs' : List D} {h' : Heap} {tk : Nat} {xs : List (NestedKey × Addr × Value)} (e : g.ρ[n]? = some a) (ha : H a = some o) (hd : DObj W a o ks kv vv)
    (k : KT W g h' a ks' vs' xs) (hne : ks' ≠ []) (hs : Heap.SameBut a s.heap h') : ∃ o', Inv X pins σ (upd H a o') { s with heap := h', toks := tk } ∧ RS W g (S.set n (.dct ks' vs')) (upd H a o') := by
  obtain ⟨ob, h1, ro⟩ := k.ro hne
  refine ⟨.ext fun h => h.get? a = some ob, I.write (x := a) (e := a) (o := .ext fun h => h.get? a = some ob) (by rw [ha]; exact mut_dobj hd) (.inl rfl) (fun b q hb z => (hs.2 b hb).trans z) ⟨ob, h1⟩ ⟨h1, ⟨ob, h1⟩, fun h1 h2 e1 k => k _ e1⟩, rs.write e ro⟩
end
end Z
end

section
set_option Elab.async false
set_option linter.all false
set_option maxRecDepth 100000
set_option maxHeartbeats 4000000
/-! Z, part 6: comparisons by values. -/
namespace Z
open PySem PySem.W PySem.Spec PyProof.Rows L2 PySem.SeqAt

/-- what isinstance asks of a class -/
structure ICls (K : PySem.W.Frag) (C : Addr) : Prop where
  cl : Cls K C
  ha : PySem.W.findIn K (.ref C) "__class__" = some (some (.builtin "object.__class__"))
  hn : PySem.W.specialIn K (.builtin "object.__class__") "__get__" = some (some (.builtin "getset_descriptor.__get__"))
  htk : PySem.W.takesIn K (.builtin "object.__class__") = some true
  hm : PySem.W.mroIn K C (.type "object") = some true
def kdV (W : Wd) : Kd → Value
  | .non => .type "NoneType"
  | .ty t => .type (tyN t)
  | .cls c => .ref (W.clA c)
  | .exc c => .ref (W.clA c)
  | .verr => .type "ValueError"
/-- a class as a value -/
def uV (W : Wd) : D → Value
  | .ty t => .type (tyN t)
  | .cls c => .ref (W.clA c)
  | _ => .none
/-- what is asked of a class of errors -/
structure ErrC (W : Wd) (nv c : Nat) : Prop where
  nm : W.fld nv = ("value" : Str)
  sup : W.mg ("super" : Str) = none
  ex : ∃ fI D, (∃ F : IniD W.P W.K fI D, Binds W.K (PySem.W.ksFn F.name F.qual F.params (iniBody F.p) F.scope F.dV F.kV F.doc F.pm F.an (.ref F.cda) F.ct F.cc) ["self", "value"] []) ∧ IniC W.K D (W.clA c) ∧
    PySem.W.findIn W.K (.ref (W.clA c)) "__init__" = some (some (.ref fI)) ∧ PySem.W.typeIn W.K (.ref fI) = some (.type "function")
  xf : XfC W.K (W.clA c)
  is_ : ExcC W.K (W.clA c)
/-- what the text has -/
structure Wf (W : Wd) (T : Tab) : Prop where
  cls : ∀ c m f, T.meth.lookup (c, m) = some f → Cls W.K (W.clA c)
  meth : ∀ c m f, T.meth.lookup (c, m) = some f → Meth W.K (W.clA c) (W.fld m) (W.fnA f)
  fn : ∀ c m f, T.meth.lookup (c, m) = some f → PySem.W.fnIn W.K (W.fnA f) = true
  nseq : ∀ c f, T.meth.lookup (c, T.nmGet) = some f → PySem.W.noSeq W.K (W.clA c) = true
  len : W.fld T.nmLen = ("__len__" : Str)
  get : W.fld T.nmGet = ("__getitem__" : Str)
  ins : W.fld T.nmIn = ("__contains__" : Str)
  eq : W.fld T.nmEq = ("__eq__" : Str)
  icls : ∀ c, T.inst.contains c = true → ICls W.K (W.clA c)
  inj : ∀ i j, W.fld i = W.fld j → i = j
  prop : ∀ c f q, T.prop.lookup (c, f) = some q → ∃ p, PropOf W.K (W.clA c) (W.fld f) p (W.fnA q)
  noat : ∀ c f, T.flds.contains (c, f) = true → NoAttr W.K (W.clA c) (W.fld f)
  mkc : ∀ c C f, T.cls.lookup c = some C → C.init = some f → Mk W.K (W.clA c) (W.fnA f)
  err : ∀ c, T.errs.contains c = true → ErrC W T.nmVal c
  kit : ∀ k u b, T.isa k u = some b → PySem.W.kitOne W.K (kdV W k) (uV W u) = some b
section
variable {α β γ δ : Type} {W : Wd} {rel : Gh → α → β → Prop} {rel2 : Gh → γ → δ → Prop} {E : XK} {g : Gh}
/-- as Nxt, without slots -/
def Nx0 (W : Wd) (rel : Gh → α → β → Prop) (rel2 : Gh → γ → δ → Prop) (E : XK) (g : Gh) (f : α → List O → R γ) (Q : δ → Hp → Prop) : β → Hp → Prop :=
  fun x H1 => ∃ g1 S1 d, Le g g1 ∧ RS W g1 S1 H1 ∧ rel g1 d x ∧ OutG W rel2 E g1 (f d S1) Q
theorem OutG.bind0 {r : R α} {f : α → List O → R γ} {Q : δ → Hp → Prop} (h : OutG W rel2 E g (r.bind f) Q) : OutG W rel E g r (Nx0 W rel rel2 E g f Q) := by
  cases r with
  | ok d S => exact fun g' H' v l rs rd => ⟨g', S, d, l, rs, rd, OutG.le l h⟩
  | err e S => exact h
  | bad => exact h
end
section
variable {W : Wd} {Φ : Fn} {n : Nat} {E : WX} {X : Cx} {T : Tab} {g : Gh} {S : List O} {H : Hp} {pins : List (Addr × Obj)} {σ : L2.St} {s : Shared}
theorem own_ok {Ex : XK} {Q : VK} {m : Nat} {x : D} {vx : V} {ds : List D} (rs : RS W g S H) (rx : RD W g x vx) (o : Out W Ex g (ownD T Φ m x ds S) Q) :
    ∃ a c dx fl f, vx = .ref a ∧ H a = some (.ins (W.clA c) dx fl) ∧ T.meth.lookup (c, m) = some f ∧ Out W Ex g (Φ f (x :: ds) S) Q := by
  unfold ownD at o
  split at o
  · rename_i c fs vs e
    unfold callM at o
    split at o
    · rename_i f hf
      obtain ⟨a, dx, ws, rfl, h1, _, _⟩ := ins_ok rs e rx
      exact ⟨a, c, dx, _, f, rfl, h1, hf, o⟩
    · exact o.elim
  · exact o.elim
theorem Cs.meth (c : Cs W Φ n E X) (wf : Wf W T) {k m f : Nat} (h : T.meth.lookup (k, m) = some f) : Cls X.K (W.clA k) ∧ Meth X.K (W.clA k) (W.fld m) (W.fnA f) ∧ PySem.W.fnIn X.K (W.fnA f) = true := by
  rw [c.K]
  exact ⟨wf.cls _ _ _ h, wf.meth _ _ _ h, wf.fn _ _ _ h⟩
theorem look_items {y : D} {ds : List D} (e : items? S y = some ds) : look S y = .tup ds ∨ look S y = .lst ds ∨ look S y = .scr ds := by
  unfold items? at e
  unfold look
  split at e
  · cases e; exact .inl rfl
  · cases e; exact .inr (.inl rfl)
  · cases e; exact .inr (.inr rfl)
  · split at e
    · rename_i n _ _ q
      cases e
      refine .inr (.inl ?_)
      show (match S[n]? with | some (.lst ds) => D.lst ds | some (.dct ks vs) => .dct ks vs | _ => .ref n) = _
      rw [q]
    · cases e
  · cases e
theorem flat2_le {x y : D} (h : flat2 x y = true) : min x.dep y.dep ≤ 60 := by
  simp only [flat2, Bool.or_eq_true, decide_eq_true_eq] at h
  omega
theorem isSome_eq {α : Type} {o : Option α} (h : o.isSome = true) : ∃ a, o = some a := by
  cases o with
  | none => cases h
  | some a => exact ⟨a, rfl⟩
/-- == and != of data -/
theorem eqD_run (c : Cs W Φ n E X) {neg : Bool} {op : CmpOp} (hop : op = if neg then .NotEq else .Eq) {x y : D} {vx vy : V} {u w : Value} {Q : VK} {Ex : XK} (I : Inv X pins σ H s) (rx : RelV vx u) (ry : RelV vy w) (rs : RS W g S H) (dx : RD W ⟨H, g.ρ, g.pn⟩ x vx)
    (dy : RD W ⟨H, g.ρ, g.pn⟩ y vy) (o : Out W Ex g ((eqD x y S).bind (nbl neg)) Q) : wpAny (model X.prog X.w) X.A (compareOp op u w) (EP X pins σ Q) X.xe s := by
  unfold eqD at o
  split at o
  · rename_i hk
    obtain ⟨h1, h2, h3, h4⟩ := hk
    obtain ⟨p, hp⟩ := isSome_eq h1
    obtain ⟨q, hq⟩ := isSome_eq h2
    obtain ⟨as, r1⟩ := reads_of c.K I (fun _ _ h => h) dx rx hp
    obtain ⟨bs, r2⟩ := reads_of c.K I (fun _ _ h => h) dy ry hq
    have hu := c.hu
    have hd : X.A.units + min p.depth q.depth < cLine := by
      have := flat2_le h3
      rw [py_dep hp, py_dep hq]
      omega
    have e := py_eqv x y hp hq h4
    cases neg with
    | false =>
      subst hop
      refine eq_plain r1 r2 (py_plain hp) (py_plain hq) hd ⟨.bl _, H, I, rfl, ?_⟩
      exact o g H _ Le.rfl' rs (by rw [e, Bool.false_xor]; rfl)
    | true =>
      subst hop
      refine ne_plain r1 r2 (py_plain hp) (py_plain hq) hd ⟨.bl _, H, I, rfl, ?_⟩
      exact o g H _ Le.rfl' rs (by rw [e, Bool.true_xor]; rfl)
  · exact o.elim
/-- in and not in -/
theorem inD_run (c : Cs W Φ n E X) (wf : Wf W T) {neg : Bool} {op : CmpOp} (hop : op = if neg then .NotIn else .In) {x y : D} {vx vy : V} {u w : Value} {Q : VK} (I : Inv X pins σ H s) (rx : RelV vx u) (ry : RelV vy w) (rs : RS W g S H) (dx : RD W g x vx)
    (dy : RD W g y vy) (o : Out W (fun c d H => E c d σ H) g ((inD T Φ x y S).bind (nbl neg)) Q) : wpAny (model X.prog X.w) X.A (compareOp op u w) (EP X pins σ Q) X.xe s := by
  have hu := c.hu
  unfold inD at o
  split at o
  · rename_i z
    split at o
    · rename_i w'
      cases neg with
      | false =>
        subst hop
        exact op_in_str pins s σ H _ _ _ _ Q I rx ry ⟨_, _, dx, dy, by have := o g H _ Le.rfl' rs rfl; rwa [Bool.false_xor] at this⟩
      | true =>
        subst hop
        exact op_notin_str pins s σ H _ _ _ _ Q I rx ry ⟨_, _, dx, dy, by have := o g H _ Le.rfl' rs rfl; rwa [Bool.true_xor] at this⟩
    · exact o.elim
  · split at o
    · rename_i ds e
      split at o
      · rename_i hk
        obtain ⟨h1, h2, h3, h4⟩ := hk
        obtain ⟨p, hp⟩ := isSome_eq h1
        obtain ⟨q, hq⟩ := isSome_eq h2
        obtain ⟨as, r1⟩ := reads_of c.K I rs.sub dx rx hp
        have hd : X.A.units + 1 + min (PyData.depthAll q) p.depth < cLine := by
          have := flat2_le h3
          rw [py_dep hp, pys_dep hq]
          simp only [D.dep] at this
          omega
        have ea := pys_any hp h4 hq
        have ly := look_rd rs dy
        have hq2 : ∃ bs, Reads s.heap w (.tuple q) bs ∨ Reads s.heap w (.list q) bs := by
          rcases look_items e with e2 | e2 | e2
          · rw [e2] at ly
            obtain ⟨bs, r2⟩ := reads_of c.K I (fun _ _ h => h) ly ry (p := .tuple q) (by simp [D.py, hq])
            exact ⟨bs, .inl r2⟩
          · rw [e2] at ly
            obtain ⟨bs, r2⟩ := reads_of c.K I (fun _ _ h => h) ly ry (p := .list q) (by simp [D.py, hq])
            exact ⟨bs, .inr r2⟩
          · rw [e2] at ly
            obtain ⟨bs, r2⟩ := reads_of c.K I (fun _ _ h => h) ly ry (p := .list q) (by simp [D.py, hq])
            exact ⟨bs, .inr r2⟩
        obtain ⟨bs, r2⟩ := hq2
        cases neg with
        | false =>
          subst hop
          have fin : EP X pins σ Q (.bool (q.any fun y => PyData.eqv y p)) s := ⟨.bl _, H, I, rfl, o g H _ Le.rfl' rs (by rw [ea, Bool.false_xor]; rfl)⟩
          rcases r2 with r2 | r2
          · exact in_tuple_data r2 r1 (pys_plain hq) (py_plain hp) hd fin
          · exact in_list_data r2 r1 (pys_plain hq) (py_plain hp) hd fin
        | true =>
          subst hop
          have fin : EP X pins σ Q (.bool (!q.any fun y => PyData.eqv y p)) s := ⟨.bl _, H, I, rfl, o g H _ Le.rfl' rs (by rw [ea, Bool.true_xor]; rfl)⟩
          rcases r2 with r2 | r2
          · exact notIn_tuple_data r2 r1 (pys_plain hq) (py_plain hp) hd fin
          · exact notIn_list_data r2 r1 (pys_plain hq) (py_plain hp) hd fin
      · exact o.elim
    · split at o
      · rename_i ks vs e
        split at o
        · rename_i hk
          obtain ⟨a, ob, kv, vv, rfl, ha, dob, rk, rv⟩ := dict_ok rs e dy
          obtain rfl : w = Value.ref a := ry
          have hk' : keyS x = true ∧ ks.all keyS = true := by simpa [okKey] using hk
          obtain ⟨kvs, rfl, kr⟩ := dobj_S dob rk rv hk'.2
          obtain rfl := rd_key hk'.1 dx
          have hg := kr.get hk'.1
          have hs : (dget ks vs x).isSome = (valV kvs (toKey x)).isSome := by
            cases hz : dget ks vs x with
            | none => rw [hg.2 hz]; rfl
            | some d => obtain ⟨v, hv, _⟩ := hg.1 d hz; rw [hv]; rfl
          cases neg with
          | false =>
            subst hop
            exact d_in (by omega) I (.k ha) rx fun s' I' => ⟨.bl _, H, I', rfl, o g H _ Le.rfl' rs (by rw [hs, Bool.false_xor]; rfl)⟩
          | true =>
            subst hop
            exact d_notIn (by omega) I (.k ha) rx fun s' I' => ⟨.bl _, H, I', rfl, o g H _ Le.rfl' rs (by rw [hs, Bool.true_xor]; rfl)⟩
        · split at o
          · rename_i hk
            obtain ⟨a, ob, kv, vv, rfl, ha, dob, rk, rv⟩ := dict_ok rs e dy
            obtain rfl : w = Value.ref a := ry
            have hk' : keyT x = true ∧ ks.all keyT = true := by simpa [okT] using hk
            obtain ⟨xs, kt⟩ := dobj_T c.K c.p c.w I rs.sub ha dob rk rv hk'.2
            obtain ⟨b, rfl, rfl, hkey⟩ := key_is c.K I rs.sub hk'.1 dx rx
            have hg := kt.get hk'.1
            have hs : (dget ks vs x).isSome = (atKey xs (nk x)).isSome := by
              cases hz : dget ks vs x with
              | none => rw [hg.2 hz]; rfl
              | some d => obtain ⟨p, v, hv, _⟩ := hg.1 d hz; rw [hv]; rfl
            have hx := kt.of
            rw [← c.p, ← c.w] at hx hkey
            have hroom : (nestedKind X.prog X.w).room X.A.in1 := by show X.A.units + 1 + 8 < cLine; have := c.hu; omega
            cases neg with
            | false =>
              subst hop
              exact wpAny_in_heap hroom hkey kt.nS hx ⟨.bl _, H, I.tok _, rfl, o g H _ Le.rfl' rs (by rw [hs, Bool.false_xor]; rfl)⟩
            | true =>
              subst hop
              show wpAny _ _ (do return Value.bool (!(← contains (.ref a) (.ref b)))) _ _ _
              exact wpAny_bind (wpAny_contains_heap hroom hkey kt.nS hx (wpAny_pure ⟨.bl _, H, I.tok _, rfl, o g H _ Le.rfl' rs (by rw [hs, Bool.true_xor]; rfl)⟩))
          · exact o.elim
      · obtain ⟨a, cc, dxx, fl, f, rfl, ha, hf, o2⟩ := own_ok (Q := Nx0 W (RD W) (RD W) _ g (nbl neg) Q) rs dy (OutG.bind0 o)
        obtain rfl : w = Value.ref a := ry
        obtain ⟨hc, hm, hfn⟩ := c.meth wf hf
        obtain ⟨mA, O, _⟩ := ins_get I.hok ha
        obtain ⟨od, J, _⟩ := O.look
        obtain ⟨m, hF⟩ := I.fr
        have hs := hm.at_
        rw [wf.ins] at hs
        have run := c.call X.A pins s σ H f [.ref a, u] [.ref a, vx] [y, x] g S _ c.room0 c.gd rfl I (.cons rfl (.cons rx .nil)) rs ⟨_, _, rfl, dy, _, _, rfl, dx, rfl⟩ o2
        cases neg with
        | false =>
          subst hop
          refine in_K hF I.mod.kin J hs hm.fn (wpAny_mono run (fun r s' z => ?_) fun _ _ z => z)
          obtain ⟨z, H', I', rz, g1, S1, d, le, rs1, rd, o3⟩ := z
          cases d with
          | bl k =>
            cases rd
            cases (show r = Value.bool k from rz)
            exact wpAny_truthy_bool ⟨.bl k, H', I', rfl, o3 g1 H' _ Le.rfl' rs1 (by rw [Bool.false_xor]; rfl)⟩
          | _ => exact o3.elim
        | true =>
          subst hop
          refine notIn_K hF I.mod.kin J hs hm.fn (wpAny_mono run (fun r s' z => ?_) fun _ _ z => z)
          obtain ⟨z, H', I', rz, g1, S1, d, le, rs1, rd, o3⟩ := z
          cases d with
          | bl k =>
            cases rd
            cases (show r = Value.bool k from rz)
            exact wpAny_truthy_bool ⟨.bl (!k), H', I', rfl, o3 g1 H' _ Le.rfl' rs1 (by rw [Bool.true_xor]; rfl)⟩
          | _ => exact o3.elim
end
end Z
end

section
set_option Elab.async false
set_option linter.all false
set_option maxRecDepth 100000
set_option maxHeartbeats 4000000
/-! Z: what the head is asked of the classes of errors. -/
namespace Z
open PySem PySem.W PySem.Spec PyProof.Rows L2
def iniP : List Stmt → Option (Nat → Pos)
  | [.Expr (.Call (.Attribute (.Call (.Name s1 q0) [] [] q1) s2 q2) [.Name s3 q3] [] q4) q5, .Assign [.Attribute (.Name s4 q6) s5 q7] (.Name s6 q8) q9] =>
    if s1 = "super" ∧ s2 = "__init__" ∧ s3 = "value" ∧ s4 = "self" ∧ s5 = "value" ∧ s6 = "value" ∧ (q2.endLine == q4.line) = true then
      some fun i => match i with
        | 0 => q0 | 1 => q1 | 2 => q2 | 3 => q3 | 4 => q4 | 5 => q5 | 6 => q6 | 7 => q7 | 8 => q8 | _ => q9
    else none
  | _ => none
theorem iniP_ok {b : List Stmt} {p : Nat → Pos} (h : iniP b = some p) : b = iniBody p ∧ ((p 2).endLine == (p 4).line) = true := by
  unfold iniP at h
  split at h
  · split at h
    · rename_i hk
      obtain ⟨rfl, rfl, rfl, rfl, rfl, rfl, hl⟩ := hk
      cases h
      exact ⟨rfl, hl⟩
    · cases h
  · cases h
def iniA : Arguments → Bool
  | ⟨[], [⟨a, _, _⟩, ⟨b, _, _⟩], none, [], [], none, []⟩ => a == ("self" : Str) && b == ("value" : Str)
  | _ => false
theorem iniA_ok {ar : Arguments} (h : iniA ar = true) : ∃ n1 q1 n2 q2, ar = ⟨[], [⟨"self", n1, q1⟩, ⟨"value", n2, q2⟩], none, [], [], none, []⟩ := by
  unfold iniA at h
  split at h
  · obtain ⟨h1, h2⟩ := Bool.and_eq_true_iff.mp h
    have e1 := beq_iff_eq.mp h1
    have e2 := beq_iff_eq.mp h2
    subst e1 e2
    exact ⟨_, _, _, _, rfl⟩
  · cases h
def iniS (sc : Scope) : Bool := sc.names.lookup ("super" : Str) == some .globalImplicit && sc.names.lookup ("__class__" : Str) == some .free && sc.names.lookup ("self" : Str) == some .local && sc.names.lookup ("value" : Str) == some .local &&
  sc.names.all (fun x => x.2 != .cell) && sc.names.all (fun x => x.2 != .free || x.1 == ("__class__" : Str)) && sc.kind == .function && !sc.isCoroutine && !sc.isGenerator
/-- the __init__ at fI, of the class at D, in a text of the file -/
def iniB (K : PySem.W.Frag) (file : Str) (fI D : Addr) : Bool := match K.lookup fI with
  | some ⟨_, _, .func fd, _⟩ => (match fd.body, fd.closure, fd.code, fd.defaults with
    | .stmts body, [(c0, cc)], .ref cda, .none => c0 == ("__class__" : Str) && (iniP body).isSome && iniA fd.params && iniS fd.scope && fd.globals == mainGlobals && fd.builtins == builtinsNs && PySem.W.codeIn K (.ref cda) fd.qualname &&
      (match K.lookup cda with
      | some ⟨_, _, .fields vs, _⟩ => (match (vs[2]? : Option Value) with
        | some (.str f _) => f == file
        | _ => false)
      | _ => false) &&
      (match K.lookup cc with
      | some ⟨_, _, .cell (some (.ref D')), _⟩ => D' == D
      | _ => false) && (PySem.W.clsIn K D).isSome && decide (PySem.W.nsIn K cStatics "thirdparty.any" = some none)
    | _, _, _, _ => false)
  | _ => false
theorem ini_bind {name qual : Str} {n1 n2 : Option Expr} {q1 q2 : Pos} {body : List Stmt} {scope : Scope} {kV doc pm ct : Value} {an : Option Addr} {cda cc : Addr} (a b : Value) :
    bindArgs (PySem.W.ksFn name qual ⟨[], [⟨"self", n1, q1⟩, ⟨"value", n2, q2⟩], none, [], [], none, []⟩ body scope .none kV doc pm an (.ref cda) ct cc) ⟨[a, b], []⟩ = pure [(("self" : PySem.Str), a), (("value" : PySem.Str), b)] := by rfl
theorem iniB_ok {P : Program} {K : PySem.W.Frag} {file : Str} {fI D : Addr} (h : iniB K file fI D = true) (hf : (P.main.file == file) = true) (ht : (P.main.scope.names.lookup ("super" : Str)).isSome = false) :
    ∃ F : IniD P K fI D, Binds K (PySem.W.ksFn F.name F.qual F.params (iniBody F.p) F.scope F.dV F.kV F.doc F.pm F.an (.ref F.cda) F.ct F.cc) ["self", "value"] [] := by
  unfold iniB at h
  split at h
  · rename_i oc od fd osl lk
    split at h
    · rename_i body c0 cc cda hb hc hcd hdf
      simp only [Bool.and_eq_true] at h
      obtain ⟨⟨⟨⟨⟨⟨⟨⟨⟨⟨h1, h2⟩, h3⟩, h4⟩, h5⟩, h6⟩, h7⟩, h8⟩, h9⟩, h10⟩, h11⟩ := h
      obtain ⟨p, hp⟩ := Option.isSome_iff_exists.mp h2
      obtain ⟨rfl, hl⟩ := iniP_ok hp
      obtain ⟨n1, q1, n2, q2, e3⟩ := iniA_ok h3
      have e1 := beq_iff_eq.mp h1
      subst e1
      have e5 := beq_iff_eq.mp h5
      have e6 := beq_iff_eq.mp h6
      unfold iniS at h4
      simp only [Bool.and_eq_true] at h4
      obtain ⟨⟨⟨⟨⟨⟨⟨⟨s1, s2⟩, s3⟩, s4⟩, s5⟩, s6⟩, s7⟩, s8⟩, s9⟩ := h4
      obtain ⟨m1, m2, m3, m4, m5, m6, m7, m8, m9, m10, m11, m12, m13, m14, m15⟩ := fd
      dsimp only at hb hc hcd hdf e3 e5 e6 h7 s1 s2 s3 s4 s5 s6 s7 s8 s9
      subst hb hc hcd hdf e3 e5 e6
      split at h8
      · rename_i ccl cdd vs ccs hco
        split at h8
        · rename_i f tf hv
          have e8 := beq_iff_eq.mp h8
          subst e8
          split at h9
          · rename_i cl cld D' csl hce
            have e9 := beq_iff_eq.mp h9
            subst e9
            obtain ⟨cdD, hcD⟩ := Option.isSome_iff_exists.mp h10
            refine ⟨{ name := m1, qual := m2, params := _, p := p, scope := m5, dV := .none, kV := m9, doc := m10, pm := m11, an := m12, cda := cda, cc := cc, ct := m14, oc := oc, od := od, osl := osl, lk := lk, code := h7, ccl := ccl, cdd := cdd, vs := vs, ccs := ccs, file := f, tf := tf, codeO := hco, vs2 := hv, fl := hf, cl := cl, cld := cld, csl := csl, cellO := hce, ar := ⟨"self", n1, q1⟩, hp := rfl, har := rfl, sS := beq_iff_eq.mp s1, hl := hl, sC := beq_iff_eq.mp s2, sF := beq_iff_eq.mp s3, sV := beq_iff_eq.mp s4, sN := fun x hx => (by simpa using List.all_eq_true.mp s5 x hx), sR := ?_, kind := beq_iff_eq.mp s7, co := (by simpa using s8), gen := (by simpa using s9), top := ht, cdD := cdD, clsD := hcD, any := of_decide_eq_true h11 }, ?_⟩
            · intro x hx e
              have := List.all_eq_true.mp s6 x hx
              rw [e] at this
              simpa using this
            · refine Binds.all fun us hl => ?_
              match us, hl with
              | [a, b], _ => exact ini_bind a b
          · cases h9
        · cases h8
      · cases h8
    · cases h
  · cases h
def oexB (K : PySem.W.Frag) (C : Addr) : Bool := (match K.lookup C with
  | some ⟨.type t, _, .cls cd, sl⟩ => (match cd.mro, sl.toList with
    | .ref C' :: bm, [_, _, _, _, some (.builtin n), _] => t == "type" && C' == C && n == "ValueError.__new__" && PySem.HandSPX.refsVE bm && cd.hasDict && !cd.hasDel
    | _, _ => false)
  | _ => false) && decide (PySem.W.findIn K (.ref C) "__setattr__" = some (some (.builtin "object.__setattr__"))) && decide (PySem.W.subIn K (.ref C) (.type "BaseException") = some true) && decide (PySem.W.typeIn K (.ref C) = some (.type "type")) && PySem.W.keepIn K (.ref C)
theorem oexB_ok {K : PySem.W.Frag} {C : Addr} (h : oexB K C = true) : OexC K C := by
  unfold oexB at h
  simp only [Bool.and_eq_true] at h
  obtain ⟨⟨⟨⟨h1, h2⟩, h3⟩, h4⟩, h5⟩ := h
  refine ⟨?_, of_decide_eq_true h2, of_decide_eq_true h3, of_decide_eq_true h4, h5⟩
  split at h1
  · rename_i t dd cd sl lk
    split at h1
    · rename_i C' bm k0 k1 k2 k3 n k5 hm hs
      simp only [Bool.and_eq_true] at h1
      obtain ⟨⟨⟨⟨⟨g1, g2⟩, g3⟩, g4⟩, g5⟩, g6⟩ := h1
      have e1 := beq_iff_eq.mp g1
      have e2 := beq_iff_eq.mp g2
      have e3 := beq_iff_eq.mp g3
      subst e1 e2 e3
      obtain ⟨nm, bs, mro, ns, qn, hd, sn, sub, ab, col, del⟩ := cd
      dsimp only at hm g5 g6
      subst hm
      have hdel : del = false := by simpa using g6
      subst g5 hdel
      have hsl : sl = #[k0, k1, k2, k3, some (.builtin "ValueError.__new__"), k5] := by
        obtain ⟨l⟩ := sl
        simp only at hs
        rw [hs]
      subst hsl
      exact ⟨nm, qn, ns, bs, bm, sn, sub, ab, col, dd, k0, k1, k2, k3, k5, lk, g4⟩
    · cases h1
  · cases h1
def exB (K : PySem.W.Frag) (C : Addr) : Bool := decide (PySem.W.findIn K (.ref C) "__class__" = some (some (.builtin "object.__class__"))) && decide (PySem.W.specialIn K (.builtin "object.__class__") "__get__" = some (some (.builtin "getset_descriptor.__get__"))) &&
  decide (PySem.W.takesIn K (.builtin "object.__class__") = some true) && decide (PySem.W.mroIn K C (.type "object") = some true)
/-- the class at C, its __init__ at fI, of the class at D -/
def errB0 (K : PySem.W.Frag) (fI D C : Addr) : Bool := oexB K C && decide (PySem.W.mroIn K C (.ref D) = some true) && decide (PySem.W.ks_superIn K C D "__init__" = some (some (.builtin "ValueError.__init__"))) &&
  decide (PySem.W.subIn K (.ref C) (.type "ValueError") = some true) && decide (PySem.W.findIn K (.ref C) "value" = some none) && decide (PySem.W.findIn K (.ref C) "__init__" = some (some (.ref fI))) && decide (PySem.W.typeIn K (.ref fI) = some (.type "function")) && xfB K C && exB K C
theorem errB_ok {W : Wd} {nv c : Nat} {file : Str} {fI D : Addr} (h1 : iniB W.K file fI D = true) (h : errB0 W.K fI D (W.clA c) = true) (hf : (W.P.main.file == file) = true) (ht : (W.P.main.scope.names.lookup ("super" : Str)).isSome = false) (hn : W.fld nv = ("value" : Str)) (hs : W.mg ("super" : Str) = none) : ErrC W nv c := by
  unfold errB0 exB at h
  simp only [Bool.and_eq_true] at h
  obtain ⟨⟨⟨⟨⟨⟨⟨⟨h2, h3⟩, h4⟩, h5⟩, h6⟩, h7⟩, h8⟩, h9⟩, ⟨⟨g1, g2⟩, g3⟩, g4⟩ := h
  have xf := xfB_ok h9
  exact ⟨hn, hs, ⟨fI, D, iniB_ok h1 hf ht, ⟨oexB_ok h2, of_decide_eq_true h3, of_decide_eq_true h4, of_decide_eq_true h5, of_decide_eq_true h6⟩, of_decide_eq_true h7, of_decide_eq_true h8⟩, xf, ⟨xf.ga, xf.gg, xf.exC, xf.hdC, of_decide_eq_true g1, of_decide_eq_true g2, of_decide_eq_true g3, of_decide_eq_true g4⟩⟩
end Z
end

section
set_option Elab.async false
set_option linter.all false
set_option maxRecDepth 100000
set_option maxHeartbeats 4000000
/-! Z, part 7: comparisons, indexes, slices, built-ins, methods. -/
namespace Z
open PySem PySem.W PySem.Spec PyProof.Rows L2 PySem.SeqAt
section
variable {W : Wd} {Φ : Fn} {n : Nat} {E : WX} {X : Cx} {T : Tab} {g : Gh} {S : List O} {H : Hp} {pins : List (Addr × Obj)} {σ : L2.St} {s : Shared}
theorem isNon_eq {x : D} {v : V} (r : RD W g x v) : decide (v = V.non) = x.isNon := by
  cases x with
  | non => cases r; rfl
  | bl b => cases r; rfl
  | int i => cases r; rfl
  | str s => cases r; rfl
  | tup ds => obtain ⟨a, vs, rfl, _⟩ := r; rfl
  | lst ds => obtain ⟨a, vs, rfl, _⟩ := r; rfl
  | scr ds => obtain ⟨a, vs, rfl, _⟩ := r; rfl
  | dct ks ds => obtain ⟨a, o, kv, vv, rfl, _⟩ := r; rfl
  | set ds => obtain ⟨_, a, rfl, _⟩ := r; rfl
  | ins c fs ds => obtain ⟨a, dx, vs, rfl, _⟩ := r; rfl
  | exc c v => obtain ⟨a, dx, w, rfl, _⟩ := r; rfl
  | ref n => obtain ⟨a, _, rfl⟩ := r; rfl
  | fn f => cases r; rfl
  | cls f => cases r; rfl
  | ty t => cases r; rfl
theorem look_ins0 {x : D} {c : Nat} {fs : List Nat} {vs : List D} (e : look S x = .ins c fs vs) : ins? S x = some (c, fs, vs) := by
  cases x with
  | ref n =>
    unfold look at e
    dsimp only at e
    split at e <;> cases e
  | ins c' fs' vs' => cases e; rfl
  | _ => cases e
theorem dec_beq (a b : Bool) : decide (a = b) = (a == b) := by cases a <;> cases b <;> rfl
theorem lt_run (c : Cs W Φ n E X) {x y : D} {vx vy : V} {u w : Value} {Q : VK} {Ex : XK} (I : Inv X pins σ H s) (rx : RelV vx u) (ry : RelV vy w) (rs : RS W g S H) (dx : RD W g x vx) (dy : RD W g y vy) {b : Bool} (e : x.lt y = some b)
    (o : Out W Ex g (.ok (.bl b) S) Q) : wpAny (model X.prog X.w) X.A (compareOp .Lt u w) (EP X pins σ Q) X.xe s := by
  unfold D.lt at e
  split at e
  · rename_i p q hp hq
    split at e
    · rename_i hk
      cases e
      simp only [Bool.and_eq_true] at hk
      obtain ⟨⟨h1, h2⟩, h3⟩ := hk
      obtain ⟨as, r1⟩ := reads_of c.K I rs.sub dx rx hp
      obtain ⟨bs, r2⟩ := reads_of c.K I rs.sub dy ry hq
      have hu := c.hu
      have hd : X.A.units + min p.depth q.depth < cLine := by
        have := flat2_le h2
        rw [py_dep hp, py_dep hq]
        omega
      exact lt_data r1 r2 h1 (fun z => by rw [z] at h3; cases h3) hd ⟨.bl _, H, I, rfl, o g H _ Le.rfl' rs rfl⟩
    · cases e
  · cases e
/-- a comparison -/
theorem op_cmp (c : Cs W Φ n E X) (wf : Wf W T) {op : CmpOp} : OpS X (compareOp op) (fun σ => rTwo W E σ (cmpD T Φ op)) := by
  intro pins s σ H x y v u Q I rx ry h
  obtain ⟨g, S, da, db, rs, ra, rb, o⟩ := h
  unfold cmpD at o
  split at o
  · split at o
    · rename_i ks vs us e1 e2
      split at o
      · rename_i hk
        have r1 := look_rd rs ra
        have r2 := look_rd rs rb
        rw [e1] at r1
        rw [e2] at r2
        obtain ⟨a, o1, kv, vv, rfl, h1, dob1, rk1, rv1⟩ := r1
        obtain ⟨b, o2, kw, vw, rfl, h2, dob2, rk2, rv2⟩ := r2
        obtain ⟨kvs, rfl, kr1⟩ := dobj_S dob1 rk1 rv1 hk
        obtain ⟨kws, rfl, kr2⟩ := dobj_S dob2 rk2 rv2 rfl
        obtain rfl : v = Value.ref a := rx
        obtain rfl : u = Value.ref b := ry
        have hw : kws = [] := List.length_eq_zero_iff.mp (by have := kr2.fk.length; simpa using this.symm)
        subst hw
        have hl : ks.length = kvs.length := by have := kr1.fk.length; simpa using this
        obtain ⟨z1, hd1, us1, rel1, dd1⟩ := dk_of I.hok h1
        obtain ⟨z2, hd2, us2, rel2, dd2⟩ := dk_of I.hok h2
        have l1 := rel1.length
        have l2 := rel2.length
        refine keq_eq (r := true) hd1 hd2 dd1 dd2 (by have := c.hu; omega) (fun hz => ?_) ⟨.bl (ks.isEmpty), H, I, ?_, o g H _ Le.rfl' rs rfl⟩
        · have : us1 = [] := List.length_eq_zero_iff.mp (by rw [hz, ← l2]; rfl)
          subst this
          exact .nil
        · show Value.bool _ = Value.bool _
          congr 1
          rw [Bool.and_true, ← l1, ← l2, ← hl]
          cases ks <;> rfl
      · exact o.elim
    · rename_i c1 fs1 vs1 c2 fs2 vs2 e1 e2
      split at o
      · rename_i hcc
        subst hcc
        have i1 : ins? S da = some (c1, fs1, vs1) := look_ins0 e1
        have i2 : ins? S db = some (c1, fs2, vs2) := look_ins0 e2
        obtain ⟨a, cc, dxx, fl, f, rfl, ha, hf, o2⟩ := own_ok (Q := Nx0 W (RD W) (RD W) _ g (nbl false) Q) rs ra (OutG.bind0 o)
        obtain ⟨a1, dx1, ws1, ea, ha1, _, _⟩ := ins_ok rs i1 ra
        obtain ⟨b, dx2, ws2, rfl, hb, _, _⟩ := ins_ok rs i2 rb
        cases ea
        obtain rfl : v = Value.ref a := rx
        obtain rfl : u = Value.ref b := ry
        have hcl : W.clA cc = W.clA c1 := by
          have q := Option.some.inj (ha.symm.trans ha1)
          exact (HO.ins.inj q).1
        obtain ⟨hc, hm, hfn⟩ := c.meth wf hf
        obtain ⟨mA, O, _⟩ := ins_get I.hok ha
        obtain ⟨od, J, _⟩ := O.look
        obtain ⟨mB, O2, _⟩ := ins_get I.hok hb
        obtain ⟨od2, J2, _⟩ := O2.look
        obtain ⟨m, hF⟩ := I.fr
        have hs := hm.at_
        rw [wf.eq] at hs
        have run := c.call X.A pins s σ H f [.ref a, .ref b] [.ref a, .ref b] [da, db] g S _ c.room0 c.gd rfl I (.cons rfl (.cons rfl .nil)) rs ⟨_, _, rfl, ra, _, _, rfl, rb, rfl⟩ o2
        refine PySem.W.cmp_ofEq (PySem.W.cmp_K (by have := c.hu; omega) hF I.mod.kin J J2.type (by rw [hcl]; simp [PySem.W.notFirst]) hs hm.fn (wpAny_mono run (fun r s' z => ?_) fun _ _ z => z))
        obtain ⟨z, H', I', rz, g1, S1, d, le, rs1, rd, o3⟩ := z
        cases d with
        | bl k =>
          cases rd
          cases (show r = Value.bool k from rz)
          exact ⟨.bl k, H', I', rfl, o3 g1 H' _ Le.rfl' rs1 (by rw [Bool.false_xor]; rfl)⟩
        | _ => exact o3.elim
      · exact o.elim
    · exact eqD_run c (neg := false) rfl I rx ry rs (look_rd rs ra) (look_rd rs rb) o
  · exact eqD_run c (neg := true) rfl I rx ry rs (look_rd rs ra) (look_rd rs rb) o
  · exact inD_run c wf (neg := false) rfl I rx ry rs ra rb o
  · exact inD_run c wf (neg := true) rfl I rx ry rs ra rb o
  · split at o
    · cases rb
      exact op_isN pins s σ H _ _ v u Q I rx ry ⟨rfl, o g H _ Le.rfl' rs (by rw [isNon_eq ra]; rfl)⟩
    · split at o
      · cases ra; cases rb
        exact op_isBl pins s σ H _ _ v u Q I rx ry ⟨_, _, rfl, rfl, o g H _ Le.rfl' rs (by rw [dec_beq]; rfl)⟩
      · exact o.elim
    · exact o.elim
  · split at o
    · cases rb
      exact op_notN pins s σ H _ _ v u Q I rx ry ⟨rfl, o g H _ Le.rfl' rs (by rw [isNon_eq ra]; rfl)⟩
    · split at o
      · cases ra; cases rb
        exact op_notBl pins s σ H _ _ v u Q I rx ry ⟨_, _, rfl, rfl, o g H _ Le.rfl' rs (by rw [dec_beq]; rfl)⟩
      · exact o.elim
    · exact o.elim
  · split at o
    · exact op_lt pins s σ H _ _ v u Q I rx ry ⟨_, _, ra, rb, o g H _ Le.rfl' rs rfl⟩
    · split at o
      · rename_i e
        exact lt_run c I rx ry rs ra rb e o
      · exact o.elim
  · split at o
    · exact op_le pins s σ H _ _ v u Q I rx ry ⟨_, _, ra, rb, o g H _ Le.rfl' rs rfl⟩
    · exact o.elim
  · split at o
    · exact op_gt pins s σ H _ _ v u Q I rx ry ⟨_, _, ra, rb, o g H _ Le.rfl' rs rfl⟩
    · exact o.elim
  · split at o
    · exact op_ge pins s σ H _ _ v u Q I rx ry ⟨_, _, ra, rb, o g H _ Le.rfl' rs rfl⟩
    · exact o.elim
end
end Z
end

section
set_option Elab.async false
set_option linter.all false
set_option maxRecDepth 100000
set_option maxHeartbeats 4000000
/-! Z, part 8: indexes, slices, built-ins. -/
namespace Z
open PySem PySem.W PySem.Spec PyProof.Rows L2 PySem.SeqAt
/-- a subscript by values -/
def IxS (X : Cx) (r : L2.St → R2) : Prop :=
  ∀ (value slice : Expr) (pins : List (Addr × Obj)) (s : Shared) (σ : L2.St) (H : Hp) (x y : V) (v u : Value) (Q : VK), Inv X pins σ H s → RelV x v → RelV y u → r σ x y H Q →
    subscripted slice false v u = operate [v, u] (getItem v u) → subscripted slice true v u = runValue (.builtin "lifetime.subscript" ⟨[v, u], []⟩) → wpAny (model X.prog X.w) X.A (subscriptTail value slice v u) (EP X pins σ Q) X.xe s
theorem RDs.atI {W : Wd} {g : Gh} {ds : List D} {vs : List V} {k : Int} {d : D} (r : RDs W g ds vs) (e : L2.atI ds k = some d) : ∃ v, L2.atI vs k = some v ∧ RD W g d v := by
  unfold L2.atI at e ⊢
  rw [← r.length]
  obtain ⟨j, h1, h2⟩ := Option.bind_eq_some_iff.mp e
  obtain ⟨v, h3, h4⟩ := r.get h2
  exact ⟨v, by rw [h1]; exact h3, h4⟩
theorem RDs.cut {W : Wd} {g : Gh} {ds : List D} {vs : List V} (r : RDs W g ds vs) (lo hi : Option Int) : RDs W g (cutL ds lo hi) (cutV vs lo hi) := by
  unfold cutL cutV
  rw [r.length]
  exact (r.drop _).take _
section
variable {W : Wd} {Φ : Fn} {n : Nat} {E : WX} {X : Cx} {T : Tab} {g : Gh} {S : List O} {H : Hp} {pins : List (Addr × Obj)} {σ : L2.St} {s : Shared}
theorem ix_D (c : Cs W Φ n E X) (wf : Wf W T) : IxS X (fun σ => rTwo W E σ (idxD T Φ)) := by
  intro value slice pins s σ H x y v u Q I rx ry h hs0 hs1
  obtain ⟨g, S, da, db, rs, ra, rb, o⟩ := h
  unfold idxD at o
  split at o
  · rename_i z k
    cases ra; cases rb
    split at o
    · rename_i ch e
      split at o
      · rename_i hl
        exact ix_str value slice pins s σ H _ _ v u Q I rx ry ⟨z, k, ch, rfl, rfl, by rw [← lim_eq]; exact hl, e, o g H _ Le.rfl' rs rfl⟩ hs0
      · exact o.elim
    · exact o.elim
  · cases hi : items? S da with
    | some ds =>
      rw [hi] at o
      cases db with
      | int k =>
        cases rb
        dsimp only at o
        split at o
        · rename_i d e2
          obtain ⟨a, vs, rfl, hq, r⟩ := items_ok rs hi ra
          obtain ⟨w, h1, h2⟩ := r.atI e2
          rcases hq with hq | hq
          · exact ix_tup value slice pins s σ H _ _ v u Q I rx ry ⟨a, vs, k, w, rfl, rfl, by rw [c.K]; exact hq, h1, o g H _ Le.rfl' rs h2⟩ hs0
          · exact ix_list value slice pins s σ H _ _ v u Q I rx ry ⟨a, vs, k, w, rfl, rfl, by rw [c.K]; exact hq, h1, o g H _ Le.rfl' rs h2⟩ hs0
        · exact o.elim
      | _ => exact o.elim
    | none =>
      rw [hi] at o
      dsimp only at o
      cases hd : dict? S da with
      | some kvp =>
        obtain ⟨ks, vs⟩ := kvp
        rw [hd] at o
        dsimp only at o
        split at o
        · rename_i hk
          split at o
          · rename_i d e2
            obtain ⟨a, ob, kv, vv, rfl, ha, dob, rk, rv⟩ := dict_ok rs hd ra
            have hk' : keyS db = true ∧ ks.all keyS = true := by simpa [okKey] using hk
            obtain ⟨kvs, rfl, kr⟩ := dobj_S dob rk rv hk'.2
            obtain rfl := rd_key hk'.1 rb
            obtain ⟨w, h1, h2⟩ := (kr.get hk'.1).1 d e2
            cases (show v = Value.ref a from rx)
            have gd : DGet H a (kV (toKey db)) (some w) := by rw [← h1]; exact .k ha
            exact tail_any (dict_typeIs I gd) PySem.F.slot_dict_getitem.lookup (d_getItem (by have := c.hu; omega) I gd ry fun w' s' I' rw' => ⟨w, H, I', rw', o g H _ Le.rfl' rs h2⟩) hs0
          · exact o.elim
        · split at o
          · rename_i hk
            split at o
            · rename_i d e2
              obtain ⟨a, ob, kv, vv, rfl, ha, dob, rk, rv⟩ := dict_ok rs hd ra
              have hk' : keyT db = true ∧ ks.all keyT = true := by simpa [okT] using hk
              obtain ⟨xs, kt⟩ := dobj_T c.K c.p c.w I rs.sub ha dob rk rv hk'.2
              cases (show v = Value.ref a from rx)
              obtain ⟨b, rfl, rfl, hkey⟩ := key_is c.K I rs.sub hk'.1 rb ry
              obtain ⟨p, w, h1, h2, h3⟩ := (kt.get hk'.1).1 d e2
              have hx := kt.of
              rw [← c.p, ← c.w] at hx hkey
              exact tail_any hx.typeIs PySem.F.slot_dict_getitem.lookup (wpAny_getItem_heap (by show X.A.units + 1 + 8 < cLine; have := c.hu; omega) hkey hx h1 ⟨w, H, I.tok _, h2, o g H _ Le.rfl' rs h3⟩) hs0
            · exact o.elim
          · exact o.elim
      | none =>
        rw [hd] at o
        dsimp only at o
        obtain ⟨a, cc, dxx, fl, f, rfl, ha, hf, o2⟩ := own_ok rs ra o
        obtain rfl : v = Value.ref a := rx
        obtain ⟨hc, hm, hfn⟩ := c.meth wf hf
        obtain ⟨mA, O, _⟩ := ins_get I.hok ha
        obtain ⟨od, J, _⟩ := O.look
        obtain ⟨m, hF⟩ := I.fr
        have hs := hm.at_
        rw [wf.get] at hs
        have run := c.call X.A.in1 pins s σ H f [.ref a, u] [.ref a, y] [da, db] g S Q c.room.in1 c.gd rfl I (.cons rfl (.cons ry .nil)) rs ⟨_, _, rfl, ra, _, _, rfl, rb, rfl⟩ o2
        exact sub_K hF I.mod.kin J hs hfn hm.fn run hs1
/-- a slice -/
theorem sl_D (c : Cs W Φ n E X) (σ0 : L2.St) : SlR X (fun x lo hi H Q => ∃ g S d, RS W g S H ∧ RD W g d x ∧ Out W (fun c d H => E c d σ0 H) g (slcD d lo hi S) Q) := by
  intro pins s σ H x v vl vu lo hi sl Q I rx hs pl pu h
  obtain ⟨g, S, d, rs, ra, o⟩ := h
  unfold slcD at o
  split at o
  · cases ra
    split at o
    · rename_i hl
      exact sl_str pins s σ H _ v vl vu lo hi sl Q I rx hs pl pu ⟨_, rfl, by rw [← lim_eq]; exact hl, o g H _ Le.rfl' rs rfl⟩
    · exact o.elim
  · rename_i ds
    obtain ⟨a, vs, rfl, hq, r⟩ := ra
    cases rx
    obtain ⟨its, rv, ht, hz⟩ := I.tuple (by rw [c.K]; exact (sqF_le rs.sub hq).T)
    have hlen : its.toArray.size = vs.length := by rw [List.size_toArray]; exact rv.length.symm
    refine ⟨"tuple", _, PyProof.Rows.slot_tuple_getitem.lookup, ht.typeIs, ?_⟩
    by_cases hw : HT.sIx vs.length 0 lo = 0 ∧ HT.sIx vs.length vs.length hi = vs.length
    · have : cutL ds lo hi = ds := by
        unfold cutL
        rw [r.length, hw.1, hw.2]
        simp [← r.length]
      rw [this] at o
      exact getItem_tuple_whole ht hs pl pu (by rw [hlen]; exact hw) ⟨.ref a, H, I, rfl, o g H _ Le.rfl' rs ⟨a, vs, rfl, hq, r⟩⟩
    · refine HT.getItem_tuple_cut ht hs pl pu (by rw [hlen]; exact hw) ?_ (by rw [hlen]; exact hz)
      rw [hlen]
      exact tup_fin (t := s.toks) I ((rv.drop (HT.sIx vs.length 0 lo)).take (HT.sIx vs.length vs.length hi - HT.sIx vs.length 0 lo)) (Nat.le_trans (cutV_length vs lo hi) hz) rs (r.cut lo hi) o
  · split at o
    · rename_i ds e
      obtain ⟨a, vs, rfl, h1, r⟩ := look_cases rs ra e
      exact sl_list pins s σ H _ v vl vu lo hi sl Q I rx hs pl pu ⟨a, vs, rfl, .of h1, new_lst rs (r.cut lo hi) o⟩
    · exact o.elim
/-- values handed in, then an operation -/
def rMany (W : Wd) (E : WX) (σ : L2.St) (f : List D → List O → R D) : List V → Hp → VK → Prop := fun xs H Q => ∃ g S ds, RS W g S H ∧ RDs W g ds xs ∧ Out W (fun c d H => E c d σ H) g (f ds S) Q
def CaS (X : Cx) (f : Value) (r : L2.St → List V → Hp → VK → Prop) : Prop :=
  ∀ (pins : List (Addr × Obj)) (s : Shared) (σ : L2.St) (H : Hp) (xs : List V) (us : List Value) (Q : VK), Inv X pins σ H s → Vals xs us → r σ xs H Q → wpAny (model X.prog X.w) X.A (call f us) (EP X pins σ Q) X.xe s
def biV : Bi → Value
  | .len => .builtin "len" | .all => .builtin "all" | .any => .builtin "any" | .abs => .builtin "abs" | .min => .builtin "min" | .max => .builtin "max"
  | .sorted => .builtin "sorted" | .repr => .builtin "repr" | .int => .type "int" | .tuple => .type "tuple" | .list => .type "list" | .listM => .type "list"
  | .dict => .type "dict" | .dictM => .type "dict" | .isinstance => .builtin "isinstance" | .bool => .type "bool" | .str => .type "str" | .sum => .builtin "sum" | .set => .type "set" | .valueError => .type "ValueError"
theorem RDs.one {x : D} {vs : List V} (h : RDs W g [x] vs) : ∃ v, vs = [v] ∧ RD W g x v := by
  obtain ⟨v, r, rfl, h1, h2⟩ := h
  obtain rfl : r = [] := h2
  exact ⟨v, rfl, h1⟩
theorem RDs.two {x y : D} {vs : List V} (h : RDs W g [x, y] vs) : ∃ v w, vs = [v, w] ∧ RD W g x v ∧ RD W g y w := by
  obtain ⟨v, r, rfl, h1, h2⟩ := h
  obtain ⟨w, rfl, h3⟩ := RDs.one h2
  exact ⟨v, w, rfl, h1, h3⟩
theorem bls_py : ∀ {xs : List D}, xs.all D.isBl = true → pys xs = some (xs.map fun d => .bool d.isTrue)
  | [], _ => rfl
  | d :: xs, h => by
    obtain ⟨h1, h2⟩ := all_cons h
    cases d with
    | bl b => simp [pys, D.py, bls_py h2, D.isTrue]
    | _ => cases h1
theorem read_items (c : Cs W Φ n E X) (I : Inv X pins σ H s) (rs : RS W g S H) {y : D} {ds : List D} {ps : List PyData} {v : V} {u : Value} (e : items? S y = some ds) (r : RD W g y v) (rv : RelV v u) (hp : pys ds = some ps) :
    ∃ bs, Reads s.heap u (.tuple ps) bs ∨ Reads s.heap u (.list ps) bs := by
  have ly := look_rd rs r
  rcases look_items e with e2 | e2 | e2
  · rw [e2] at ly
    obtain ⟨bs, r2⟩ := reads_of c.K I (fun _ _ h => h) ly rv (p := .tuple ps) (by simp [D.py, hp])
    exact ⟨bs, .inl r2⟩
  · rw [e2] at ly
    obtain ⟨bs, r2⟩ := reads_of c.K I (fun _ _ h => h) ly rv (p := .list ps) (by simp [D.py, hp])
    exact ⟨bs, .inr r2⟩
  · rw [e2] at ly
    obtain ⟨bs, r2⟩ := reads_of c.K I (fun _ _ h => h) ly rv (p := .list ps) (by simp [D.py, hp])
    exact ⟨bs, .inr r2⟩
theorem bool_all : ∀ xs : List D, (xs.map fun d => PyData.bool d.isTrue).all PyData.truthy = xs.all D.isTrue
  | [] => rfl
  | x :: xs => by
    simp only [List.map_cons, List.all_cons, bool_all xs]
    rfl
theorem bool_any : ∀ xs : List D, (xs.map fun d => PyData.bool d.isTrue).any PyData.truthy = xs.any D.isTrue
  | [] => rfl
  | x :: xs => by
    simp only [List.map_cons, List.any_cons, bool_any xs]
    rfl
theorem allany_run (c : Cs W Φ n E X) (I : Inv X pins σ H s) (rs : RS W g S H) {y : D} {ds : List D} {v : V} {u : Value} {Q : VK} {Ex : XK} (e : items? S y = some ds) (r : RD W g y v) (rv : RelV v u) (hb : ds.all D.isBl = true) :
    (Out W Ex g (.ok (.bl (ds.all D.isTrue)) S) Q → wpAny (model X.prog X.w) X.A (call (.builtin "all") [u]) (EP X pins σ Q) X.xe s) ∧
    (Out W Ex g (.ok (.bl (ds.any D.isTrue)) S) Q → wpAny (model X.prog X.w) X.A (call (.builtin "any") [u]) (EP X pins σ Q) X.xe s) := by
  have hp := bls_py hb
  have hpl := pys_plain hp
  have hf : ∀ x ∈ ds.map (fun d => PyData.bool d.isTrue), x.fits63 := fun x hx => by
    obtain ⟨d, _, rfl⟩ := List.mem_map.mp hx
    exact True.intro
  obtain ⟨bs, r2⟩ := read_items c I rs e r rv hp
  rcases r2 with r2 | r2
  · cases r2 with
    | tuple h1 h2 h3 h4 => exact ⟨fun o => all_tuple_data c.room.hd ⟨_, h1, h2, _, h3⟩ h4 hpl hf fun h' tk k => ⟨.bl _, H, I.kept k, rfl, o g H _ Le.rfl' rs (by rw [bool_all]; rfl)⟩,
        fun o => any_tuple_data c.room.hd ⟨_, h1, h2, _, h3⟩ h4 hpl hf fun h' tk k => ⟨.bl _, H, I.kept k, rfl, o g H _ Le.rfl' rs (by rw [bool_any]; rfl)⟩⟩
  · cases r2 with
    | list h1 h2 h3 h4 => exact ⟨fun o => all_list_data c.room.hd ⟨_, h1, h2, _, h3⟩ h4 hpl hf fun h' tk k => ⟨.bl _, H, I.kept k, rfl, o g H _ Le.rfl' rs (by rw [bool_all]; rfl)⟩,
        fun o => any_list_data c.room.hd ⟨_, h1, h2, _, h3⟩ h4 hpl hf fun h' tk k => ⟨.bl _, H, I.kept k, rfl, o g H _ Le.rfl' rs (by rw [bool_any]; rfl)⟩⟩
theorem repr_run (c : Cs W Φ n E X) (I : Inv X pins σ H s) {y : D} {v : V} {u : Value} {Q : VK} {Ex : XK} {t : Str} (rs : RS W g S H) (r : RD W ⟨H, g.ρ, g.pn⟩ y v) (rv : RelV v u) (e : y.rep = some t) (o : Out W Ex g (.ok (.str t) S) Q) :
    wpAny (model X.prog X.w) X.A (call (.builtin "repr") [u]) (EP X pins σ Q) X.xe s := by
  unfold D.rep at e
  split at e
  · rename_i p hp
    split at e
    · rename_i hk
      cases e
      obtain ⟨h1, h2, h3, h4⟩ := hk
      obtain ⟨as, r2⟩ := reads_of c.K I (fun _ _ h => h) r rv hp
      have fin : ∀ h' u tk, (∀ b o, s.heap.get? b = some o → h'.get? b = some o) → EP X pins σ Q (.str p.shown u) { s with heap := h', toks := tk } := fun h' u tk k => ⟨.str p.shown, H, I.kept k, ⟨u, rfl⟩, o g H _ Le.rfl' rs rfl⟩
      have hz : p.shown.length ≤ sizeLine := by rw [← lim_eq]; exact h3
      have hu : X.A.units + (p.depth + 1) < cLine := by have := c.hu; omega
      have byref : ∀ a, u = .ref a → wpAny (model X.prog X.w) X.A (call (.builtin "repr") [u]) (EP X pins σ Q) X.xe s := fun a ea => by
        subst ea
        exact repr_of_reads' r2 h1 (PyData.noDict_hsm h2) c.gd hu (fun _ _ e => e) fin hz
      cases r2 with
      | none => exact PySem.P.repr_of_none (fin s.heap _ _ fun _ _ e => e)
      | bool b => exact PySem.P.repr_of_bool (fin s.heap _ _ fun _ _ e => e)
      | int i t => exact PySem.P.repr_of_int (of_decide_eq_true h1) (fin s.heap _ _ fun _ _ e => e)
      | str x t => exact PySem.P.repr_of_str (fin s.heap _ _ fun _ _ e => e) hz
      | list => exact byref _ rfl
      | tuple => exact byref _ rfl
      | dict => exact byref _ rfl
    · cases e
  · cases e
theorem repr_run1 (c : Cs W Φ n E X) (I : Inv X pins σ H s) {y : D} {v : V} {u : Value} {Q : VK} {Ex : XK} {t : Str} (rs : RS W g S H) (r : RD W ⟨H, g.ρ, g.pn⟩ y v) (rv : RelV v u) (e : y.rep1 = some t) (o : Out W Ex g (.ok (.str t) S) Q) :
    wpAny (model X.prog X.w) X.A (call (.builtin "repr") [u]) (EP X pins σ Q) X.xe s := by
  unfold D.rep1 at e
  split at e
  · rename_i k i
    split at e
    · rename_i hk
      cases e
      obtain ⟨a, ob, kv, vv, rfl, h1, dob, rk, rv'⟩ := r
      obtain ⟨kvs, rfl, kr⟩ := dobj_S dob rk rv' (by rfl)
      obtain rfl : u = Value.ref a := rv
      obtain ⟨z1, hsys, us, rel, o1, es, ep, g1, g2, g3, g4, g5, g6⟩ := dk_of I.hok h1
      obtain ⟨kk, rfl, q1, q2⟩ : ∃ kk, kvs = [kk] ∧ V.str k = kV kk.1 ∧ V.int i = kk.2 := by
        obtain ⟨x1, r1, e1, s1, t1⟩ := kr.fk
        obtain ⟨x2, r2, e2, s2, t2⟩ := kr.fv
        match kvs, e1, e2 with
        | [kk], e1, e2 =>
          simp only [List.map_cons, List.map_nil, List.cons.injEq] at e1 e2
          have s1 : x1 = V.str k := s1
          have s2 : x2 = V.int i := s2
          exact ⟨kk, rfl, by rw [e1.1, s1], by rw [e2.1, s2]⟩
        | [], e1, _ => cases e1
        | a :: b :: l, e1, _ =>
          simp only [List.map_cons, List.cons.injEq] at e1
          have : r1 = [] := t1
          rw [this] at e1
          exact absurd e1.2 (by simp)
      obtain ⟨k1, v1⟩ := kk
      cases rel with
      | cons hh tt =>
        rename_i uu ul
        cases tt
        obtain ⟨ku, vu⟩ := uu
        obtain ⟨h5, h6⟩ := hh
        have h5 : k1 = ku := h5
        subst h5
        have q2 : V.int i = v1 := q2
        subst q2
        obtain ⟨tt, h6⟩ : ∃ tt, vu = .int i tt := h6
        subst h6
        have hes : ∃ e0, es.toList = [e0] ∧ (mixKind X.prog X.w).is k1 e0.key = true ∧ e0.val = .int i tt := by
          cases hl : es.toList with
          | nil => rw [hl] at g5; cases g5
          | cons e0 r0 =>
            rw [hl] at g5
            cases g5 with
            | cons b1 b2 b3 => cases b3; exact ⟨e0, rfl, b1, b2⟩
        obtain ⟨e0, he0, hk0, hv0⟩ := hes
        have hkk : ∃ tk, e0.key = .str k tk := by
          cases k1 with
          | inl j => cases q1
          | inr x =>
            have : k = x := V.str.inj q1
            subst this
            rcases keyIs_shape (show keyIs (Sum.inr k) e0.key = true from hk0) with ⟨j, t, e1, e2⟩ | ⟨y, t, e1, e2⟩
            · cases e1
            · cases e1; exact ⟨t, e2⟩
        obtain ⟨tk, hkk⟩ := hkk
        have rd : Reads s.heap (.ref a) (.dict [(.str k, .int i)]) (a :: ([] ++ []) ++ ([] ++ [])) := by
          refine .dict g1 g2.1 g3 ?_ ?_
          · rw [he0]
            show ReadsAll _ [e0.key] [PyData.str k] _
            rw [hkk]
            exact .cons (.str _ _) .nil
          · rw [he0]
            show ReadsAll _ [e0.val] [PyData.int i] _
            rw [hv0]
            exact .cons (.int _ _) .nil
        have hz : (PyData.dict [(.str k, .int i)]).shown.length ≤ sizeLine := by rw [← lim_eq]; exact hk.2
        exact repr_of_reads' rd hk.1 (fun _ hm => by simp at hm; subst hm; simp at hsys) c.gd (by have := c.hu; show X.A.units + (1 + 1) < cLine; omega) (fun _ _ e => e) (fun h' u tk k' => ⟨.str _, H, I.kept k', ⟨u, rfl⟩, o g H _ Le.rfl' rs rfl⟩) hz
    · cases e
  · exact repr_run c I rs r rv e o
end
end Z
end

section
set_option Elab.async false
set_option linter.all false
set_option maxRecDepth 100000
set_option maxHeartbeats 4000000
/-! Z, part 8b: tuple(d), sorted(x). -/
namespace Z
open PySem PySem.W PySem.Calls PySem.Spec PyProof.Rows L2 PySem.SeqAt
section
variable {W : Wd} {Φ : Fn} {n : Nat} {E : WX} {X : Cx} {T : Tab} {g : Gh} {S : List O} {H : Hp} {pins : List (Addr × Obj)} {σ : L2.St} {s : Shared}
theorem collect_seqs (c : Cs W Φ n E X) (I : Inv X pins σ H s) {A : Around} {a : Addr} {vs : List V} {R : List Value → Shared → Prop} {Ee : Value → Shared → Prop} (hh : A.handled = none)
    (h : (SqT X.K H a vs ∨ SqL X.K H a vs) ∨ ∃ kvs, H a = some (.dK kvs) ∧ vs = kvs.map fun kv => kV kv.1)
    (q : vs.length ≤ sizeLine → ∀ (us : List Value) h' tk, (∀ b o, s.heap.get? b = some o → h'.get? b = some o) → Vals vs us → R us { s with heap := h', toks := tk }) :
    wpAny (model X.prog X.w) A (collect (.ref a)) R Ee s := by
  rcases h with (h | h) | ⟨kvs, h, rfl⟩
  · obtain ⟨its, r, ⟨o, h1, h2, n, h3⟩, hz⟩ := I.tuple h
    refine wpAny_collect_seq a (.inr rfl) h1 h2 h3 (fun h' k => ?_) (by rw [List.size_toArray, ← r.length]; exact hz)
    exact q hz its h' s.toks k r
  · obtain ⟨its, r, ⟨o, n, h1, h2, _, h3⟩, hz⟩ := I.list h
    refine wpAny_collect_seq a (.inl rfl) h1 h2 h3 (fun h' k => ?_) (by rw [List.size_toArray, ← r.length]; exact hz)
    exact q hz its h' s.toks k r
  · obtain ⟨z, lo, vs, rel, dd⟩ := dk_of I.hok h
    obtain ⟨ep, hat⟩ := dd.dictAt
    have hl := rel.length
    have ek : (kvs.map fun kv => kV kv.1) = vs.map fun p => kV p.1 := by
      have e := congrArg (List.map kV) rel.keys
      rw [List.map_map, List.map_map] at e
      exact e
    refine kdu_collect (kdl_dict (knd := mixKind X.prog X.w) (kvs := vs) (ep := ep) lo) hh hat (by rw [← hl]; exact z) fun h' tk acc hk hacc => ?_
    have hv : Vals (vs.map fun p => kV p.1) acc.toList := keys_at (by rw [Array.length_toList]; exact hacc.1) fun j v e => hacc.2 j v (by rw [← Array.getElem?_toList]; exact e)
    exact q (by rw [List.length_map]; exact z) _ h' tk hk (by rw [ek]; exact hv)
theorem tup_new_dict (c : Cs W Φ n E X) (I : Inv X pins σ H s) {A : Around} (hh : A.handled = none) {a : Addr} {kvs : List (Key × V)} {Q₁ : Value → Shared → Prop} {Ee : Value → Shared → Prop} (ha : H a = some (.dK kvs))
    (h : ∀ (us : List Value) (h' : Heap) (tk : Nat), (∀ b o, s.heap.get? b = some o → h'.get? b = some o) → Vals (kvs.map fun kv => kV kv.1) us → Q₁ (.ref h'.objs.size) { s with heap := h'.push { cls := .type "tuple", data := .seq us.toArray }, toks := tk }) :
    codeAny (model X.prog X.w) A (.call (.builtin "tuple.__new__") ⟨[.type "tuple", .ref a], []⟩) (wants Q₁ Ee) s := by
  refine codeAny_of_tree ?_
  show wpAny _ A.in1 (do checkBuiltinCall "tuple.__new__" ⟨[.type "tuple", .ref a], []⟩; again (.builtin "tuple.__new__" ⟨[.type "tuple", .ref a], []⟩)) _ _ s
  refine wpAny_bind (wpAny_of_eq (PySem.F.newCall_tuple_1 _) (wpAny_pure ⟨plainId_quiet PySem.F.plain_tuple_new _, codeAny_builtin PySem.F.entry_tuple_new ?_⟩))
  rw [Around.under_plainId PySem.F.plain_tuple_new _]
  have hsub := sub_tuple_self
  have hinit := init_tuple_lookup
  have hmh := madeHere_tuple
  obtain ⟨z, lo, vs, rel, dd⟩ := dk_of I.hok ha
  have hTI : s.TypeIs (.ref a) "dict" := dd.typeIs
  have hh1 : A.in1.handled = none := hh
  have key : ∀ {R : List Value → Shared → Prop} {Ee : Value → Shared → Prop}, (∀ (us : List Value) h' tk, (∀ b o, s.heap.get? b = some o → h'.get? b = some o) → Vals (kvs.map fun kv => kV kv.1) us → R us { s with heap := h', toks := tk }) →
      wpAny (model X.prog X.w) A.in1 (collect (.ref a)) R Ee s := fun q => collect_seqs c I hh1 (.inr ⟨kvs, ha, rfl⟩) fun _ => q
  wp_walk using wpAny_typeOf hTI, key
  intro us h' tk hk hus
  show wpAny _ _ (Builtin.Tuple.tupleExact us.toArray >>= fun v => ret v) _ _ _
  unfold Builtin.Tuple.tupleExact
  refine wpAny_bind (wpAny_newObj_type ?_ (by show us.toArray.size ≤ sizeLine; rw [List.size_toArray, ← hus.length, List.length_map]; exact z))
  exact wpAny_pure (h us h' tk hk hus)
theorem tuple_dict_run (c : Cs W Φ n E X) (I : Inv X pins σ H s) (rs : RS W g S H) {ks vs : List D} {kvs : List (Key × V)} {a : Addr} {Q : VK} {Ex : XK} (h : H a = some (.dK kvs)) (kr : KRel W g ks vs kvs)
    (o : Out W Ex g (.ok (.tup ks) S) Q) : wpAny (model X.prog X.w) X.A (call (.type "tuple") [.ref a]) (EP X pins σ Q) X.xe s := by
  have z : (kvs.map fun kv => kV kv.1).length ≤ sizeLine := by
    rw [List.length_map]
    exact (dk_of I.hok h).1
  refine callType_codes (Q₁ := fun obj s₁ => s₁.TypeIs obj "tuple" ∧ EP X pins σ Q obj s₁) PySem.F.called_tuple (PySem.F.typeCall_tuple_1 _) PySem.F.entry_object_init
    (tup_new_dict c I (A := X.A.in1) c.room.hd h fun us h' tk hk hus => ⟨⟨_, Heap.get?_push_size _ rfl, rfl⟩, ?_⟩) fun obj s₁ h₁ => ?_
  · have I1 : Inv X pins σ H { s with heap := h', toks := tk } := I.kept hk
    exact tup_fin (t := tk) I1 hus z rs kr.fk o
  · exact ⟨h₁.1, PySem.F.args_object_init_2 obj _, object_init_meets PySem.F.called_tuple.init.lookup PySem.F.called_tuple.made (by decide) X.prog X.w X.A.in1 _ s₁ ⟨h₁.1, rfl, h₁.2⟩⟩
/-! ### sorted -/
def encD (b : V × D) : PyData := b.2.py.getD .none
theorem each_zip {R : Value → V × D → Prop} : ∀ {xs : List V} {us : List Value} {ds : List D}, Vals xs us → ds.length = xs.length → (∀ (i : Nat) (x : V) (u : Value) (d : D), xs[i]? = some x → us[i]? = some u → ds[i]? = some d → RelV x u → R u (x, d)) → EachIs R us (xs.zip ds)
  | [], _, ds, r, _, _ => by
    cases r
    exact .nil
  | x :: xs, _, ds, r, hl, h => by
    cases r with
    | cons r1 r2 =>
      cases ds with
      | nil => simp at hl
      | cons d ds => exact .cons (h 0 _ _ _ rfl rfl rfl r1) (each_zip r2 (by simpa using hl) fun i x u d e1 e2 e3 => h (i + 1) x u d (by simpa using e1) (by simpa using e2) (by simpa using e3))
theorem zip_fst : ∀ {xs : List V} {ds : List D}, ds.length = xs.length → (xs.zip ds).map (·.2) = ds
  | [], [], _ => rfl
  | [], _ :: _, h => by simp at h
  | _ :: _, [], h => by simp at h
  | x :: xs, d :: ds, h => by
    show d :: (xs.zip ds).map (·.2) = d :: ds
    rw [zip_fst (by simpa using h)]
theorem ali_py {a b : D} (h : D.ali a b = true) : ∃ x y, a.py = some x ∧ b.py = some y ∧ alike x y = true := by
  unfold D.ali at h
  split at h
  · exact ⟨_, _, by assumption, by assumption, h⟩
  · cases h
theorem each_vals {out : List Value} {bs : List (V × D)} (e : EachIs (fun v (b : V × D) => RelV b.1 v) out bs) : Vals (bs.map (·.1)) out := by
  induction e with
  | nil => exact .nil
  | cons h _ ih => exact .cons h ih
theorem sorted_run (c : Cs W Φ n E X) (I : Inv X pins σ H s) (rs : RS W g S H) {ds : List D} {a : Addr} {vs : List V} {Q : VK} {Ex : XK}
    (h : (SqT X.K H a vs ∨ SqL X.K H a vs) ∨ ∃ kvs, H a = some (.dK kvs) ∧ vs = kvs.map fun kv => kV kv.1) (r : RDs W g ds vs) (h1 : sortOk ds = true) (h2 : sortKind ds = true)
    (o : Out W Ex g (.ok (.lst (ds.mergeSort D.le)) S) Q) : wpAny (model X.prog X.w) X.A (call (.builtin "sorted") [.ref a]) (EP X pins σ Q) X.xe s := by
  have hal0 : ∀ x ∈ ds, ∀ y ∈ ds, D.ali x y = true := fun x hx y hy => by
    have := (Bool.and_eq_true_iff.mp h1).1
    exact List.all_eq_true.mp (List.all_eq_true.mp this x hx) y hy
  have hdep : ∀ x ∈ ds, x.dep ≤ 60 := fun x hx => of_decide_eq_true (List.all_eq_true.mp (Bool.and_eq_true_iff.mp h1).2 x hx)
  have hpy : ∀ x ∈ ds, ∃ p, x.py = some p := fun x hx => let ⟨p, _, e, _⟩ := ali_py (hal0 x hx x hx); ⟨p, e⟩
  refine call_function_entry kind_sorted plain_sorted entry_sorted (args_sorted1 _) ?_
  unfold Builtin.«sorted»
  refine wpAny_bind (m := checkCount "sorted" 1 1 _) (wpAny_pure ?_)
  refine wpAny_bind (collect_seqs c I (A := X.A.in1) c.room.hd h fun hz us h' tk hk hus => ?_)
  have hzu : us.length ≤ sizeLine := by rw [← hus.length]; exact hz
  refine wpAny_bind (wpAny_newList ?_ hzu)
  have I1 : Inv X pins σ H { s with heap := h', toks := tk } := I.kept hk
  have ho : (h'.push { cls := .type "list", data := .seq us.toArray }).get? h'.objs.size = some (seqObj "list" us.toArray 0) := Heap.get?_push_size _ rfl
  have hmemz : ∀ b ∈ vs.zip ds, b.2 ∈ ds := fun b hb => (List.of_mem_zip hb).2
  have hk2 : ∀ b o, s.heap.get? b = some o → (sortingHeap (h'.push { cls := .type "list", data := .seq us.toArray }) h'.objs.size us).get? b = some o := fun b o e =>
    sortingHeap_old (Nat.ne_of_lt (Heap.lt_size (hk b o e))) (Heap.get?_push_of_some _ (hk b o e))
  have eR : EachIs (fun v (b : V × D) => RelV b.1 v) us (vs.zip ds) := each_zip hus r.length fun _ _ _ _ _ _ _ q => q
  have er0 : EachIs (fun v (b : V × D) => ∃ as, Reads s.heap v (encD b) as) us (vs.zip ds) := each_zip hus r.length fun i x u d e1 e2 e3 q => by
    obtain ⟨w, e4, r4⟩ := r.get e3
    rw [e1] at e4
    cases e4
    obtain ⟨p, hp⟩ := hpy d (List.mem_of_getElem? e3)
    obtain ⟨as, rd⟩ := reads_of c.K I rs.sub r4 q hp
    exact ⟨as, by show Reads s.heap u (d.py.getD .none) as; rw [hp]; exact rd⟩
  have er : EachIs (fun v (b : V × D) => ∃ as, Reads (sortingHeap (h'.push { cls := .type "list", data := .seq us.toArray }) h'.objs.size us) v (encD b) as) us (vs.zip ds) := er0.mono fun v b ⟨as, q⟩ => ⟨as, Reads.keeps hk2 q⟩
  have hal : AllAlike ((vs.zip ds).map encD) := fun d hd d' hd' => by
    obtain ⟨b, hb, rfl⟩ := List.mem_map.mp hd
    obtain ⟨b', hb', rfl⟩ := List.mem_map.mp hd'
    obtain ⟨x, y, e1, e2, e3⟩ := ali_py (hal0 _ (hmemz b hb) _ (hmemz b' hb'))
    show alike (b.2.py.getD .none) (b'.2.py.getD .none) = true
    rw [e1, e2]
    exact e3
  have hso : Sortable ((vs.zip ds).map encD) := by
    rcases Bool.or_eq_true_iff.mp h2 with hh | hh
    · refine .inl fun d hd => ?_
      obtain ⟨b, hb, rfl⟩ := List.mem_map.mp hd
      have := List.all_eq_true.mp hh _ (hmemz b hb)
      obtain ⟨v, d⟩ := b
      obtain ⟨p, hp⟩ := hpy d (hmemz _ hb)
      show ∃ x r, d.py.getD .none = _
      rw [hp]
      unfold D.tup1 at this
      split at this
      · rename_i z zs q
        obtain rfl : d = .tup (z :: zs) := q
        obtain ⟨xs, hx, rfl⟩ := py_tup hp
        obtain ⟨x, xs', _, _, rfl⟩ := pys_cons hx
        exact ⟨x, xs', rfl⟩
      · cases this
    · refine .inr fun d hd => ?_
      obtain ⟨b, hb, rfl⟩ := List.mem_map.mp hd
      have := List.all_eq_true.mp hh _ (hmemz b hb)
      obtain ⟨v, d⟩ := b
      show d.py.getD .none ≠ .none ∧ ∀ xs, d.py.getD .none ≠ .tuple xs
      cases d with
      | str t => exact ⟨fun z => (nomatch (show PyData.str t = .none from z)), fun xs z => (nomatch (show PyData.str t = .tuple xs from z))⟩
      | int t => exact ⟨fun z => (nomatch (show PyData.int t = .none from z)), fun xs z => (nomatch (show PyData.int t = .tuple xs from z))⟩
      | _ => cases this
  have hu : ∀ d, d ∈ (vs.zip ds).map encD → X.A.in1.in1.units + d.depth < cLine := fun d hd => by
    obtain ⟨b, hb, rfl⟩ := List.mem_map.mp hd
    obtain ⟨p, hp⟩ := hpy b.2 (hmemz b hb)
    have := hdep b.2 (hmemz b hb)
    show X.A.units + 1 + 1 + (b.2.py.getD .none).depth < cLine
    rw [hp]
    show X.A.units + 1 + 1 + p.depth < cLine
    rw [py_dep hp]
    have := c.hu
    omega
  have S0 := SortsAt.data (prog := X.prog) (w := X.w) (A := X.A.in1.in1) (s := { s with heap := sortingHeap (h'.push { cls := .type "list", data := .seq us.toArray }) h'.objs.size us, toks := tk }) (each_map (R := fun v d => ∃ as, Reads (sortingHeap (h'.push { cls := .type "list", data := .seq us.toArray }) h'.objs.size us) v d as) encD er) hal hso hu
  refine wpAny_bind (wpAny_holding (wpAny_call_entry slot_list_sort ⟨_, ho, rfl⟩ entry_list_sort (list_sort_vals (s := { s with heap := h'.push { cls := .type "list", data := .seq us.toArray }, toks := tk }) ho S0 hzu ⟨_, rfl, ?_⟩) (args_list_sort _)))
  refine wpAny_pure ⟨_, rfl, ?_⟩
  have eo := sortVals_data (h' := sortingHeap (h'.push { cls := .type "list", data := .seq us.toArray }) h'.objs.size us) (R := fun v (b : V × D) => RelV b.1 v) false eR er hal
  obtain ⟨ep, hat⟩ := sortedHeap_at (out := (sortVals (dataKind (sortingHeap (h'.push { cls := .type "list", data := .seq us.toArray }) h'.objs.size us) ((vs.zip ds).map encD)) false us us).toArray) ho
  have hlen : (((vs.zip ds).mergeSort (dataLe false encD)).map (·.1)).length = vs.length := by
    rw [List.length_map, List.length_mergeSort, List.length_zip, r.length, Nat.min_self]
  refine ⟨.ref h'.objs.size, upd H h'.objs.size (.lst (((vs.zip ds).mergeSort (dataLe false encD)).map (·.1))), I1.laid (t' := tk) (fun b u e => (sortedHeap_old (Nat.ne_of_lt (Heap.lt_size e)) (by rw [Heap.size_push]; exact Nat.lt_succ_of_lt (Heap.lt_size e))).trans (Heap.get?_push_of_some _ e)) (Nat.le_refl _) ⟨by rw [hlen]; exact hz, _, ep, each_vals eo, hat⟩, rfl, ?_⟩
  refine new_lst rs (ds := ds.mergeSort D.le) ?_ o _ (I1.hok.fresh (Nat.le_refl _))
  have em : ((vs.zip ds).mergeSort (dataLe false encD)).map (·.2) = ds.mergeSort D.le := by
    rw [List.map_mergeSort (s := D.le), zip_fst r.length]
    intro b hb b' hb'
    obtain ⟨p, hp⟩ := hpy b.2 (hmemz b hb)
    obtain ⟨q, hq⟩ := hpy b'.2 (hmemz b' hb')
    rw [dataLe_eq]
    show (!dataLt (b'.2.py.getD .none) (b.2.py.getD .none)) = D.le b.2 b'.2
    unfold D.le
    rw [hp, hq]
    rfl
  rw [← em]
  refine RDs.of_get (by rw [List.length_map, List.length_map]) fun i d v e1 e2 => ?_
  rw [List.getElem?_map] at e1 e2
  obtain ⟨b, hb, rfl⟩ := Option.map_eq_some_iff.mp e1
  rw [hb] at e2
  cases e2
  have hm : b ∈ vs.zip ds := List.mem_mergeSort.mp (List.mem_of_getElem? hb)
  obtain ⟨i, hi⟩ := List.mem_iff_getElem?.mp hm
  rw [List.getElem?_zip_eq_some] at hi
  obtain ⟨v, e3, e4⟩ := r.get hi.2
  rw [hi.1] at e3
  cases e3
  exact e4
end
end Z
end

section
set_option Elab.async false
set_option linter.all false
set_option maxRecDepth 100000
set_option maxHeartbeats 4000000
/-! Z, part 9: built-in functions. -/
namespace Z
open PySem PySem.W PySem.Spec PyProof.Rows L2 PySem.SeqAt
section
variable {W : Wd} {Φ : Fn} {n : Nat} {E : WX} {X : Cx} {T : Tab} {g : Gh} {S : List O} {H : Hp} {pins : List (Addr × Obj)} {σ : L2.St} {s : Shared}
theorem isa_uV {k : Kd} {u : D} {b : Bool} (h : T.isa k u = some b) {v : V} (r : RD W g u v) : ClsV v (uV W u) := by
  unfold Tab.isa at h
  split at h <;> first
    | (cases r; exact .ty _)
    | (cases r; exact .own _)
    | cases h
theorem isa_inst {c : Nat} {u : D} {b : Bool} (h : T.isa (.cls c) u = some b) : T.inst.contains c = true := by
  cases u with
  | ty t =>
    by_cases e : T.inst.contains c = true
    · exact e
    · by_cases e2 : (t == Ty.valueError) = true <;> simp_all [Tab.isa]
  | cls c' =>
    by_cases e : T.inst.contains c = true
    · exact e
    · simp_all [Tab.isa]
  | _ => cases h
theorem isa_err {c : Nat} {u : D} {b : Bool} (h : T.isa (.exc c) u = some b) : T.errs.contains c = true := by
  cases u with
  | ty t =>
    by_cases e : T.errs.contains c = true
    · exact e
    · simp_all [Tab.isa]
  | cls c' =>
    by_cases e : T.errs.contains c = true
    · exact e
    · simp_all [Tab.isa]
  | _ => cases h
theorem look_ins {x : D} {c : Nat} {fs : List Nat} {vs : List D} (e : ins? S x = some (c, fs, vs)) : True := trivial
theorem kind_exc {x : D} {cc : Nat} (e : kind S x = some (.exc cc)) : ∃ d, look S x = .exc cc d := by
  unfold kind at e
  split at e <;> first
    | (cases e; done)
    | skip
  · rename_i q
    cases e
    exact ⟨_, q⟩
  · split at e <;> cases e
  · split at e <;> cases e
theorem kind_verr {x : D} (e : kind S x = some .verr) : ∃ ds, look S x = .set ds := by
  unfold kind at e
  split at e <;> first
    | (cases e; done)
    | skip
  · rename_i q
    cases e
    exact ⟨_, q⟩
  · split at e <;> cases e
  · split at e <;> cases e
theorem kind_ok (c : Cs W Φ n E X) (wf : Wf W T) (rs : RS W g S H) {x : D} {v : V} (r : RD W g x v) {k : Kd} (e : kind S x = some k) (hk : ∀ c, k = .cls c → T.inst.contains c = true) (hn : (∀ c, k ≠ .exc c) ∧ k ≠ .verr) : TyX X.K H v (kdV W k) := by
  have ly := look_rd rs r
  unfold kind at e
  split at e
  · rename_i q; rw [q] at ly; cases e; cases ly; exact .base .non
  · rename_i q; rw [q] at ly; cases e; cases ly; exact .base (.bl _)
  · rename_i q; rw [q] at ly; cases e; cases ly; exact .base (.int _)
  · rename_i q; rw [q] at ly; cases e; cases ly; exact .base (.str _)
  · rename_i q
    rw [q] at ly; cases e
    obtain ⟨a, vs, rfl, h1, _⟩ := ly
    rcases h1 with ⟨o, h1, _⟩ | ⟨o, its, n, h1, h2, _⟩
    · exact .fTuple h1
    · rw [← c.K] at h1
      exact .kTuple h1 h2
  · rename_i q
    rw [q] at ly; cases e
    obtain ⟨a, vs, rfl, h1, _⟩ := ly
    exact .base (.lst h1)
  · rename_i q
    rw [q] at ly; cases e
    obtain ⟨a, vs, rfl, h1, _⟩ := ly
    rcases h1 with h1 | ⟨o, its, n, h1, h2, _⟩
    · rcases h1 with h1 | ⟨o, h1⟩
      · exact .base (.lst h1)
      · exact .base (.frz h1)
    · rw [← c.K] at h1
      exact .kList h1 h2
  · cases e; exact absurd rfl (hn.1 _)
  · cases e; exact absurd rfl hn.2
  · rename_i ks vs q
    split at e
    · rename_i hall
      rw [q] at ly; cases e
      obtain ⟨a, o, kv, vv, rfl, h1, dob, rk, rv⟩ := ly
      obtain ⟨kvs, rfl, _⟩ := dobj_S dob rk rv hall
      exact .base (.dK h1)
    · cases e
  · split at e
    · rename_i cc fs vs q
      cases e
      obtain ⟨a, dx, ws, rfl, h1, _, _⟩ := ins_ok rs q r
      obtain ⟨k1, k2, k3, k4, k5⟩ := wf.icls _ (hk _ rfl)
      rw [← c.K] at k1 k2 k3 k4 k5
      exact .base (.ins h1 k1 k2 k3 k4 k5)
    · cases e
theorem isi_run (c : Cs W Φ n E X) (wf : Wf W T) (I : Inv X pins σ H s) (rs : RS W g S H) {x t : D} {v w : V} {us : List Value} {Q : VK} {Ex : XK} (rx : RD W g x v) (rt : RD W g t w) (rv : Vals [v, w] us) (o : Out W Ex g (isinst T S x t) Q) :
    wpAny (model X.prog X.w) X.A (call (.builtin "isinstance") us) (EP X pins σ Q) X.xe s := by
  unfold isinst at o
  split at o
  · rename_i k e
    split at o
    · rename_i b e2
      obtain ⟨u1, u2, rfl, r1, r2⟩ := vals2 rv
      have eu : u2 = uV W t := (isa_uV e2 rt).eq r2
      by_cases h1 : ∃ cc, k = .exc cc
      · obtain ⟨cc, rfl⟩ := h1
        obtain ⟨d, hl⟩ := kind_exc e
        have ly := look_rd rs rx
        rw [hl] at ly
        obtain ⟨a, dx, v', rfl, ha, hd, _⟩ := ly
        obtain rfl : u1 = Value.ref a := r1
        have hin : T.errs.contains cc = true := isa_err e2
        have EC := wf.err cc hin
        subst eu
        exact exc_isi (C := W.clA cc) (by rw [c.K]; exact EC.is_) I ha hd (by rw [c.K]; exact wf.kit _ _ _ e2) (o g H _ Le.rfl' rs rfl)
      by_cases h2 : k = .verr
      · subst h2
        obtain ⟨ds, hl⟩ := kind_verr e
        have ly := look_rd rs rx
        rw [hl] at ly
        obtain ⟨_, a, rfl, ha⟩ := ly
        obtain rfl : u1 = Value.ref a := r1
        obtain ⟨vs, ho⟩ := veV_at I.hok ha
        subst eu
        exact PySem.W.kia_one (PySem.W.kitx_bexc PySem.F.excAttr_ValueError PySem.F.lkClass_ValueError PySem.F.soClass_ValueError (by decide)) I.kIn ⟨_, ho, rfl⟩ (by rw [c.K]; exact wf.kit _ _ _ e2) (fun z => nomatch z) fun tk => ⟨.bl b, H, I.tok tk, rfl, o g H _ Le.rfl' rs rfl⟩
      have ty := kind_ok c wf rs rx e (fun c' hc => by subst hc; exact isa_inst e2) ⟨fun cc z => h1 ⟨cc, z⟩, h2⟩
      exact call_isi pins s σ H _ [u1, u2] Q I rv ⟨v, w, _, _, b, rfl, isa_uV e2 rt, ty, by rw [c.K]; exact wf.kit _ _ _ e2, o g H _ Le.rfl' rs rfl⟩
    · exact o.elim
  · exact o.elim
theorem items_ok2 (rs : RS W g S H) {d : D} {v : V} {ds : List D} (e : items? S d = some ds) (r : RD W g d v) : d = .tup ds ∨ ∃ a vs, v = .ref a ∧ SqL W.K H a vs ∧ RDs W g ds vs := by
  unfold items? at e
  split at e
  · cases e; exact .inl rfl
  · cases e
    obtain ⟨a, vs, rfl, q, r⟩ := r
    exact .inr ⟨a, vs, rfl, .of (rs.sub _ _ q), r⟩
  · cases e
    obtain ⟨a, vs, rfl, q, r⟩ := r
    exact .inr ⟨a, vs, rfl, sqL_le rs.sub q, r⟩
  · rename_i n
    obtain ⟨a, e2, rfl⟩ := r
    split at e
    · rename_i q
      cases e
      obtain ⟨ho, h1, h2⟩ := rs.obj n _ a q e2
      obtain ⟨vs, rfl, h3⟩ := h2
      exact .inr ⟨a, vs, rfl, .of h1, h3⟩
    · cases e
  · cases e
theorem seqs_ok (rs : RS W g S H) {d : D} {v : V} {ds : List D} (e : seqs? S d = some ds) (r : RD W g d v) :
    d = .tup ds ∨ (∃ a vs, v = .ref a ∧ SqL W.K H a vs ∧ RDs W g ds vs) ∨ ∃ a vs kvs, v = .ref a ∧ H a = some (.dK kvs) ∧ KRel W g ds vs kvs := by
  unfold seqs? at e
  split at e
  · rename_i xs h
    cases e
    rcases items_ok2 rs h r with h | h
    · exact .inl h
    · exact .inr (.inl h)
  · split at e
    · rename_i ks vs h
      split at e
      · rename_i hall
        cases e
        obtain ⟨a, o, kv, vv, rfl, h1, dob, rk, rv⟩ := dict_ok rs h r
        obtain ⟨kvs, rfl, kr⟩ := dobj_S dob rk rv hall
        exact .inr (.inr ⟨a, vs, kvs, rfl, h1, kr⟩)
      · cases e
    · cases e
theorem seqs_all (c : Cs W Φ n E X) (rs : RS W g S H) {d : D} {v : V} {ds : List D} (e : seqs? S d = some ds) (r : RD W g d v) :
    ∃ a vs, v = .ref a ∧ ((SqT X.K H a vs ∨ SqL X.K H a vs) ∨ ∃ kvs, H a = some (.dK kvs) ∧ vs = kvs.map fun kv => kV kv.1) ∧ RDs W g ds vs := by
  rw [c.K]
  rcases seqs_ok rs e r with rfl | ⟨a, vs, rfl, h, r1⟩ | ⟨a, vs, kvs, rfl, h, kr⟩
  · obtain ⟨a, vs, rfl, h, r1⟩ := r
    exact ⟨a, vs, rfl, .inl (.inl (sqF_le rs.sub h).T), r1⟩
  · exact ⟨a, vs, rfl, .inl (.inr h), r1⟩
  · exact ⟨a, _, rfl, .inr ⟨kvs, h, rfl⟩, kr.fk⟩
/-- list(x): a new list -/
theorem list_run (c : Cs W Φ n E X) (I : Inv X pins σ H s) (rs : RS W g S H) {x : D} {ds : List D} {v : V} {us : List Value} {Q : VK} (e : seqs? S x = some ds) (rx : RD W g x v) (rv : Vals [v] us)
    (o : ∀ p vs, H p = none → RDs W g ds vs → Q (.ref p) (upd H p (.lst vs))) : wpAny (model X.prog X.w) X.A (call (.type "list") us) (EP X pins σ Q) X.xe s := by
  obtain ⟨a, vs, rfl, hq, r⟩ := seqs_all c rs e rx
  rcases hq with hq | ⟨kvs, h, rfl⟩
  · exact call_list_of pins s σ H _ us Q I rv ⟨a, vs, rfl, hq.symm, fun l hl => o l vs hl r⟩
  · exact call_listD c.hc pins s σ H _ us Q I rv ⟨a, kvs, rfl, .inl h, fun p hp => o p _ hp r⟩
theorem op_bi (c : Cs W Φ n E X) (wf : Wf W T) {f : Bi} : CaS X (biV f) (fun σ => rMany W E σ (biD T Φ f)) := by
  intro pins s σ H xs us Q I rv h
  obtain ⟨g, S, ds, rs, rds, o⟩ := h
  have hcalm := c.hc
  unfold biD at o
  split at o
  · obtain ⟨v, rfl, r⟩ := rds.one
    cases r
    split at o
    · rename_i hl
      exact call_len_str pins s σ H _ us Q I rv ⟨_, rfl, by rw [← lim_eq]; exact hl, o g H _ Le.rfl' rs rfl⟩
    · exact o.elim
  · rename_i x _
    obtain ⟨v, rfl, r⟩ := rds.one
    obtain ⟨u, rfl, ru⟩ := vals1 rv
    cases hi : items? S x with
    | some ys =>
      rw [hi] at o
      obtain ⟨a, vs, rfl, hq, r1⟩ := items_ok rs hi r
      exact call_len_seq pins s σ H _ _ Q I (.cons ru .nil) ⟨a, vs, rfl, by rw [c.K]; exact hq.symm, o g H _ Le.rfl' rs (by rw [r1.length]; rfl)⟩
    | none =>
      rw [hi] at o
      dsimp only at o
      cases hd : dict? S x with
      | some kvp =>
        obtain ⟨ks, vs⟩ := kvp
        rw [hd] at o
        dsimp only at o
        split at o
        · rename_i hall
          obtain ⟨a, ob, kv, vv, rfl, ha, dob, rk, rv'⟩ := dict_ok rs hd r
          obtain ⟨kvs, rfl, kr⟩ := dobj_S dob rk rv' hall
          exact call_lenD pins s σ H _ _ Q I (.cons ru .nil) ⟨a, kvs, rfl, ha, o g H _ Le.rfl' rs (by have := kr.fk.length; rw [List.length_map] at this; rw [this]; rfl)⟩
        · split at o
          · rename_i hall
            obtain ⟨a, ob, kv, vv, rfl, ha, dob, rk, rv'⟩ := dict_ok rs hd r
            obtain ⟨xs, kt⟩ := dobj_T c.K c.p c.w I rs.sub ha dob rk rv' hall.1
            have hx := kt.of
            rw [← c.p, ← c.w] at hx
            obtain rfl : u = Value.ref a := ru
            have hl : lim = 16777216 := rfl
            refine call_len_dictH kt.nS hx (by rw [kt.len]; have := hall.2; omega) ?_
            exact ⟨.int ks.length, H, (I.tok _).tok _, ⟨_, by rw [kt.len]⟩, o g H _ Le.rfl' rs rfl⟩
          · exact o.elim
      | none =>
        rw [hd] at o
        dsimp only at o
        obtain ⟨a, cc, dxx, fl, f, rfl, ha, hf, o2⟩ := own_ok (Q := Nx0 W (RD W) (RD W) _ g _ Q) rs r (OutG.bind0 o)
        obtain rfl : u = Value.ref a := ru
        obtain ⟨hc, hm, hfn⟩ := c.meth wf hf
        obtain ⟨mA, O, _⟩ := ins_get I.hok ha
        obtain ⟨od, J, _⟩ := O.look
        obtain ⟨m, hF⟩ := I.fr
        have hs := hm.at_
        rw [wf.len] at hs
        have run := c.call X.A.in1 pins s σ H f [.ref a] [.ref a] [x] g S _ c.room.in1 c.gd rfl I (.cons rfl .nil) rs ⟨_, _, rfl, r, rfl⟩ o2
        refine len_K hF I.mod.kin J hs hm.fn (wpAny_mono run (fun r s' z => ?_) fun _ _ z => z)
        obtain ⟨z, H', I', rz, g1, S1, d, le, rs1, rd, o3⟩ := z
        cases d with
        | int i =>
          dsimp only at o3
          split at o3
          · rename_i hi
            cases rd
            obtain ⟨t, rfl⟩ := rz
            have hl : lim = 16777216 := rfl
            exact ⟨⟨hi.1, by omega⟩, ⟨.int i, H', I'.tok _, ⟨_, rfl⟩, o3 g1 H' _ Le.rfl' rs1 rfl⟩⟩
          · exact o3.elim
        | _ => exact o3.elim
  · rename_i x
    obtain ⟨v, rfl, r⟩ := rds.one
    obtain ⟨u, rfl, ru⟩ := vals1 rv
    split at o
    · rename_i ys e
      split at o
      · rename_i hb
        exact (allany_run c I rs e r ru hb).1 o
      · exact o.elim
    · exact o.elim
  · rename_i x
    obtain ⟨v, rfl, r⟩ := rds.one
    obtain ⟨u, rfl, ru⟩ := vals1 rv
    split at o
    · rename_i ys e
      split at o
      · rename_i hb
        exact (allany_run c I rs e r ru hb).2 o
      · exact o.elim
    · exact o.elim
  · obtain ⟨v, rfl, r⟩ := rds.one
    cases r
    exact call_abs pins s σ H _ us Q I rv ⟨_, rfl, o g H _ Le.rfl' rs rfl⟩
  · obtain ⟨v, w, rfl, r, r2⟩ := rds.two
    cases r; cases r2
    exact call_min2 hcalm pins s σ H _ us Q I rv ⟨_, _, rfl, o g H _ Le.rfl' rs rfl⟩
  · obtain ⟨v, w, rfl, r, r2⟩ := rds.two
    cases r; cases r2
    exact call_max2 hcalm pins s σ H _ us Q I rv ⟨_, _, rfl, o g H _ Le.rfl' rs rfl⟩
  · obtain ⟨v, rfl, r⟩ := rds.one
    cases r
    exact call_int1 pins s σ H _ us Q I rv (.inl ⟨_, rfl, o g H _ Le.rfl' rs rfl⟩)
  · obtain ⟨v, rfl, r⟩ := rds.one
    cases r
    exact call_int1 pins s σ H _ us Q I rv (.inr ⟨_, rfl, o g H _ Le.rfl' rs rfl⟩)
  · obtain ⟨v, w, rfl, r, r2⟩ := rds.two
    exact isi_run c wf I rs r r2 rv o
  · obtain ⟨v, rfl, r⟩ := rds.one
    obtain ⟨u, rfl, ru⟩ := vals1 rv
    obtain ⟨hp, gg, dr, tk, os⟩ := s
    show wpAny _ _ (call (.type "ValueError") [u]) _ _ _
    refine wpAny_call_exc PySem.F.excCall_ValueError (fun h' e mk => ?_) (by rw [sizeLine_eq]; show 1 ≤ _; omega)
    obtain ⟨t, h1, _, _⟩ := mk.there
    have he : H e = none := I.hok.gone mk.new
    obtain ⟨rs1, le1⟩ := rs.laid (o := veV e) he
    exact ⟨.ref e, _, I.laidN (t' := tk) mk.keeps mk.new he (veV_ok h1), rfl, o _ _ _ le1 rs1 ⟨rfl, e, rfl, upd_same⟩⟩
  · obtain ⟨v, rfl, r⟩ := rds.one
    cases r
    split at o
    · rename_i hk
      exact call_str_int pins s σ H _ us Q I rv ⟨_, rfl, hk, o g H _ Le.rfl' rs rfl⟩
    · exact o.elim
  · obtain ⟨v, rfl, r⟩ := rds.one
    obtain ⟨a, vs, rfl, hq, r1⟩ := r
    exact call_tuple_of pins s σ H _ us Q I rv ⟨a, vs, rfl, .inr ⟨by rw [c.K]; exact (sqF_le rs.sub hq).T, o g H _ Le.rfl' rs ⟨a, vs, rfl, hq, r1⟩⟩⟩
  · rename_i x hx
    obtain ⟨v, rfl, r⟩ := rds.one
    split at o
    · rename_i ys e
      rcases seqs_ok rs e r with rfl | ⟨a, vs, rfl, hq, r1⟩ | ⟨a, vs, kvs, rfl, h, kr⟩
      · exact (hx _ rfl).elim
      · obtain ⟨u, rfl, ru⟩ := vals1 rv
        cases ru
        obtain ⟨its, r', pl, hz⟩ := I.list (by rw [c.K]; exact hq)
        refine call_tuple_list pl.isList (fun h' kp => ?_) (by rw [List.size_toArray, ← r'.length]; exact hz)
        have I1 : Inv X pins σ H { s with heap := h' } := I.kept (t' := s.toks) kp
        exact tup_fin (t := s.toks) I1 r' hz rs r1 o
      · obtain ⟨u, rfl, ru⟩ := vals1 rv
        cases ru
        exact tuple_dict_run c I rs h kr o
    · exact o.elim
  · rename_i x
    obtain ⟨v, rfl, r⟩ := rds.one
    split at o
    · rename_i ys e
      exact list_run c I rs e r rv fun p vs hp r1 => new_lst rs r1 o p hp
    · exact o.elim
  · rename_i x
    obtain ⟨v, rfl, r⟩ := rds.one
    split at o
    · rename_i ys e
      refine list_run c I rs e r rv fun p vs hp r1 => ?_
      obtain ⟨rs', le⟩ := rs.alloc (o := .lst ys) (ho := .lst vs) hp ⟨vs, rfl, r1⟩
      exact o _ _ _ le rs' ⟨p, by rw [← rs.len]; simp, rfl⟩
    · exact o.elim
  · rename_i x
    obtain ⟨v, rfl, r⟩ := rds.one
    obtain ⟨u, rfl, ru⟩ := vals1 rv
    split at o
    · rename_i ys e
      split at o
      · rename_i hb
        obtain ⟨a, vs, rfl, hq, r1⟩ := seqs_all c rs e r
        cases ru
        exact sorted_run c I rs hq r1 hb.1 hb.2 o
      · exact o.elim
    · exact o.elim
  · rename_i x
    obtain ⟨v, rfl, r⟩ := rds.one
    obtain ⟨u, rfl, ru⟩ := vals1 rv
    split at o
    · rename_i t e
      exact repr_run1 c I rs (look_rd rs r) ru e o
    · exact o.elim
  · exact o.elim
end
end Z
end

section
set_option Elab.async false
set_option linter.all false
set_option maxRecDepth 100000
set_option maxHeartbeats 4000000
/-! Z, part 10: methods. -/
namespace Z
open PySem PySem.W PySem.Spec PyProof.Rows L2 PySem.SeqAt
/-- a built-in method's type, name -/
def bmT : Bm → String
  | .append => "list" | .extend => "list" | .pop => "list" | .split => "str" | .join => "str" | .setdefault => "dict" | .get => "dict" | .index => "tuple" | .indexL => "list" | .update => "dict" | .items => "dict" | .upper => "str" | .replace => "str"
def bmI : Bm → String
  | .append => "list.append" | .extend => "list.extend" | .pop => "list.pop" | .split => "str.split" | .join => "str.join" | .setdefault => "dict.setdefault" | .get => "dict.get" | .index => "tuple.index" | .indexL => "list.index" | .update => "dict.update"
  | .items => "dict.items" | .upper => "str.upper" | .replace => "str.replace"
def bmN : Bm → Str
  | .append => "append" | .extend => "extend" | .pop => "pop" | .split => "split" | .join => "join" | .setdefault => "setdefault" | .get => "get" | .index => "index" | .indexL => "index" | .update => "update" | .items => "items" | .upper => "upper" | .replace => "replace"
structure BmOk (b : Bm) : Prop where
  pa : PlainAttrs (bmT b)
  slot : Slot (bmT b) (bmN b) (bmI b)
  ty : typeOf (.builtin (bmI b)) = pure (.type "method_descriptor")
theorem bm_ok {b : Bm} (h : b ≠ .items ∧ b ≠ .upper ∧ b ≠ .replace) : BmOk b := by
  cases b with
  | append => exact ⟨PySem.F.plainAttrs_list, PySem.F.slot_list_append, PySem.F.type_list_append⟩
  | extend => exact ⟨PySem.F.plainAttrs_list, PySem.F.slot_list_extend, PySem.F.type_list_extend⟩
  | pop => exact ⟨PySem.F.plainAttrs_list, PySem.F.slot_list_pop, PySem.F.type_list_pop⟩
  | split => exact ⟨PySem.F.plainAttrs_str, PySem.F.slot_str_split, PySem.F.type_str_split⟩
  | join => exact ⟨PySem.F.plainAttrs_str, PySem.F.slot_str_join, PySem.F.type_str_join⟩
  | setdefault => exact ⟨PySem.F.plainAttrs_dict, PySem.F.slot_dict_setdefault, PySem.F.type_dict_setdefault⟩
  | get => exact ⟨PySem.F.plainAttrs_dict, PySem.F.slot_dict_get, PySem.F.type_dict_get⟩
  | index => exact ⟨PySem.F.plainAttrs_tuple, PySem.F.slot_tuple_index, PySem.F.type_tuple_index⟩
  | indexL => exact ⟨PySem.F.plainAttrs_list, PySem.F.slot_list_index, PySem.F.type_list_index⟩
  | update => exact ⟨PySem.F.plainAttrs_dict, PySem.F.slot_dict_update, PySem.F.type_dict_update⟩
  | items => exact absurd rfl h.1
  | upper => exact absurd rfl h.2.1
  | replace => exact absurd rfl h.2.2
section
variable {W : Wd} {Φ : Fn} {n : Nat} {E : WX} {X : Cx} {T : Tab} {g : Gh} {S : List O} {H : Hp} {pins : List (Addr × Obj)} {σ : L2.St} {s : Shared}
theorem ref_lst (rs : RS W g S H) {m : Nat} {v : V} (r : RD W g (.ref m) v) {ds : List D} (e : S[m]? = some (.lst ds)) : ∃ a vs, v = .ref a ∧ g.ρ[m]? = some a ∧ H a = some (.lst vs) ∧ RDs W g ds vs := by
  obtain ⟨a, e2, rfl⟩ := r
  obtain ⟨ho, h1, vs, rfl, h3⟩ := rs.obj m _ a e e2
  exact ⟨a, vs, rfl, e2, h1, h3⟩
theorem ref_dct (rs : RS W g S H) {m : Nat} {v : V} (r : RD W g (.ref m) v) {ks vs : List D} (e : S[m]? = some (.dct ks vs)) (hall : ks.all keyS = true) : ∃ a kvs, v = .ref a ∧ g.ρ[m]? = some a ∧ H a = some (.dK kvs) ∧ KRel W g ks vs kvs := by
  obtain ⟨a, e2, rfl⟩ := r
  obtain ⟨ho, h1, kv, vv, h3, h4, h5⟩ := rs.obj m _ a e e2
  obtain ⟨kvs, rfl, kr⟩ := dobj_S h3 h4 h5 hall
  exact ⟨a, kvs, rfl, e2, h1, kr⟩
theorem ref_dct0 (rs : RS W g S H) {m : Nat} {v : V} (r : RD W g (.ref m) v) {ks vs : List D} (e : S[m]? = some (.dct ks vs)) : ∃ a o kv vv, v = .ref a ∧ g.ρ[m]? = some a ∧ H a = some o ∧ DObj W a o ks kv vv ∧ RDs W g ks kv ∧ RDs W g vs vv := by
  obtain ⟨a, e2, rfl⟩ := r
  obtain ⟨ho, h1, kv, vv, h3, h4, h5⟩ := rs.obj m _ a e e2
  exact ⟨a, ho, kv, vv, rfl, e2, h1, h3, h4, h5⟩
theorem KRel.ro {ks vs : List D} {kvs : List (Key × V)} (kr : KRel W g ks vs kvs) (a : Addr) : RO W g a (.dct ks vs) (.dK kvs) := ⟨_, _, kr.obj a, kr.fk, kr.fv⟩
theorem strs_eq : ∀ {xs : List D} {ts : List Str}, strs? xs = some ts → xs = ts.map .str
  | [], ts, h => by cases h; rfl
  | d :: xs, ts, h => by
    cases d with
    | str s =>
      obtain ⟨r, h1, rfl⟩ := Option.map_eq_some_iff.mp h
      rw [strs_eq h1]
      rfl
    | _ => cases h
theorem rds_strs : ∀ {ts : List Str} {vs : List V}, RDs W g (ts.map .str) vs → vs = ts.map V.str
  | [], _, h => h
  | t :: ts, _, h => by
    obtain ⟨v, r, rfl, h1, h2⟩ := h
    rw [rds_strs h2, show v = V.str t from h1]
    rfl
theorem ix_seq {n : Nat} {i : Int} {j : Nat} (h : L2.ixN n i = some j) (hn : n ≤ lim) : seqIndex? i n = some j ∧ -(2 ^ 63) ≤ i ∧ i < 2 ^ 63 := by
  obtain ⟨h1, h2, h3, h4⟩ := ixN_seq h
  have : lim = 16777216 := rfl
  exact ⟨h1, by omega, by omega⟩
/-- d.update(e), by values -/
def mergedV (kvs more : List (Key × V)) : List (Key × V) := more.foldl (fun acc kv => putK acc kv.1 kv.2) kvs
theorem kv_merged : ∀ {more : List (Key × V)} {more' : List (Key × Value)} {kvs : List (Key × V)} {vs : List (Key × Value)}, KV more more' → KV kvs vs → KV (mergedV kvs more) (merged vs more')
  | [], _, kvs, vs, r, h => by
    cases r
    exact h
  | p :: more, _, kvs, vs, r, h => by
    cases r with
    | @cons _ q _ more' hq t =>
      obtain ⟨h1, h2⟩ := hq
      show KV (mergedV (putK kvs p.1 p.2) more) (merged (stored vs q.1 q.2) more')
      rw [← h1]
      exact kv_merged t (h.put p.1 h2)
theorem krel_merged : ∀ {ls ws ks vs : List D} {more kvs : List (Key × V)}, KRel W g ls ws more → KRel W g ks vs kvs → KRel W g (dputs ks vs ls ws).1 (dputs ks vs ls ws).2 (mergedV kvs more)
  | [], ws, ks, vs, [], kvs, _, h => by
    cases ws <;> exact h
  | [], ws, ks, vs, p :: more, kvs, h, _ => by have := h.fk.length; simp at this
  | l :: ls, [], ks, vs, more, kvs, h, _ => by
    have h1 := h.fk.length
    have h2 := h.fv.length
    simp at h1 h2
    omega
  | l :: ls, w :: ws, ks, vs, [], kvs, h, _ => by have := h.fk.length; simp at this
  | l :: ls, w :: ws, ks, vs, (p, u) :: more, kvs, h, h' => by
    obtain ⟨ka, kall⟩ := all_cons h.fa
    obtain ⟨_, _, e1, r1, r2⟩ := h.fk
    obtain ⟨_, _, e2, r3, r4⟩ := h.fv
    simp only [List.map_cons, List.cons.injEq] at e1 e2
    obtain ⟨rfl, rfl⟩ := e1
    obtain ⟨rfl, rfl⟩ := e2
    have hp : p = toKey l := kV_inj (rd_key ka r1)
    subst hp
    show KRel W g (dputs (dput ks vs l w).1 (dput ks vs l w).2 ls ws).1 (dputs (dput ks vs l w).1 (dput ks vs l w).2 ls ws).2 (mergedV (putK kvs (toKey l) u) more)
    exact krel_merged ⟨r2, r4, kall⟩ (h'.put ka r3)
theorem merged_len : ∀ (more kvs : List (Key × V)), (mergedV kvs more).length ≤ kvs.length + more.length
  | [], kvs => Nat.le_refl _
  | p :: more, kvs => by
    have h1 := merged_len more (putK kvs p.1 p.2)
    have h2 := length_putK kvs p.1 p.2
    show (mergedV (putK kvs p.1 p.2) more).length ≤ _
    simp only [List.length_cons]
    omega
theorem bm_run (c : Cs W Φ n E X) {b : Bm} {x : D} {ds : List D} {vx : V} {vs : List V} {u : Value} {us : List Value} {Q : VK} {Ex : XK} (I : Inv X pins σ H s) (rx : RelV vx u) (rvs : Vals vs us) (rs : RS W g S H) (r : RD W g x vx) (rds : RDs W g ds vs)
    (o : Out W Ex g (bmD b x ds S) Q) : wpAny (model X.prog X.w) X.A (call (.builtin (bmI b)) (u :: us)) (EP X pins σ Q) X.xe s := by
  have lq := lim_eq
  unfold bmD at o
  split at o
  · obtain ⟨w, rfl, r1⟩ := rds.one
    cases r; cases r1
    split at o
    · rename_i hk
      exact mt_split pins s σ H _ _ _ us Q I rx rvs ⟨_, _, rfl, rfl, hk.1, by rw [← lq]; exact hk.2, fun p hp => new_lst rs (RDs.strs _) o p hp⟩
    · exact o.elim
  · obtain ⟨w, rfl, r1⟩ := rds.one
    cases r
    split at o
    · rename_i xs e
      split at o
      · rename_i ts e2
        split at o
        · rename_i hk
          obtain ⟨a, ws, rfl, hq, r2⟩ := items_ok rs e r1
          obtain rfl := strs_eq e2
          obtain rfl := rds_strs r2
          exact mt_join pins s σ H _ _ _ us Q I rx rvs ⟨_, a, ts, rfl, rfl, by rw [c.K]; exact hq.symm, hk, o g H _ Le.rfl' rs rfl⟩
        · exact o.elim
      · exact o.elim
    · exact o.elim
  · obtain ⟨w, rfl, r1⟩ := rds.one
    split at o
    · rename_i xs e
      split at o
      · rename_i hk
        obtain ⟨a, ws, rfl, e2, h1, r2⟩ := ref_lst rs r e
        refine mt_append pins s σ H _ _ _ us Q I rx rvs ⟨a, ws, w, rfl, rfl, h1, by rw [← lq, ← r2.length]; exact hk, ?_⟩
        exact o g _ _ Le.rfl' (rs.write e2 ⟨_, rfl, r2.append ⟨w, [], rfl, r1, rfl⟩⟩) rfl
      · exact o.elim
    · exact o.elim
  · obtain ⟨w, rfl, r1⟩ := rds.one
    split at o
    · rename_i xs ys e e3
      split at o
      · rename_i hk
        obtain ⟨a, ws, rfl, e2, h1, r2⟩ := ref_lst rs r e
        obtain ⟨b, zs, rfl, h2, r3⟩ := look_cases rs r1 e3
        refine mt_extend pins s σ H _ _ _ us Q I rx rvs ⟨a, b, ws, zs, rfl, rfl, h1, h2, by rw [← lq, ← r2.length, ← r3.length]; exact hk.1, ?_⟩
        exact o g _ _ Le.rfl' (rs.write e2 ⟨_, rfl, r2.append r3⟩) rfl
      · exact o.elim
    · exact o.elim
  · obtain ⟨w, rfl, r1⟩ := rds.one
    cases r1
    split at o
    · rename_i xs e
      split at o
      · rename_i j ej
        split at o
        · rename_i d ed
          obtain ⟨a, ws, rfl, e2, h1, r2⟩ := ref_lst rs r e
          obtain ⟨y, hy, ry⟩ := r2.get ed
          have hz : xs.length ≤ lim := by
            rw [r2.length, lq]
            exact (I.lstM h1).1
          obtain ⟨q1, q2, q3⟩ := ix_seq ej hz
          refine mt_popAt pins s σ H _ _ _ us Q I rx rvs ⟨a, ws, _, j, y, rfl, rfl, h1, q2, q3, by rw [← r2.length]; exact q1, hy, ?_⟩
          exact o g _ _ Le.rfl' (rs.write e2 ⟨_, rfl, r2.eraseIdx j⟩) ry
        · exact o.elim
      · exact o.elim
    · exact o.elim
  · have hv : vs = [] := rds
    subst hv
    split at o
    · rename_i xs e
      split at o
      · rename_i d ed
        split at o
        · exact o.elim
        · obtain ⟨a, ws, rfl, e2, h1, r2⟩ := ref_lst rs r e
          obtain ⟨y, hy, ry⟩ := r2.get ed
          refine mt_pop pins s σ H _ _ _ us Q I rx rvs ⟨a, ws, y, rfl, rfl, h1, by rw [← r2.length]; exact hy, ?_⟩
          refine o g _ _ Le.rfl' (rs.write e2 ⟨_, rfl, ?_⟩) ry
          rw [List.dropLast_eq_take, List.dropLast_eq_take, r2.length]
          exact r2.take _
      · exact o.elim
    · exact o.elim
  · obtain ⟨w, rfl, r1⟩ := rds.one
    cases r1
    split at o
    · rename_i ts e
      split at o
      · rename_i hk
        obtain ⟨a, ws, rfl, hq, r2⟩ := r
        obtain rfl := strs_eq e
        obtain rfl := rds_strs r2
        obtain ⟨u2, rfl, t, rfl⟩ := vals1 rvs
        cases rx
        have hq' : SqT X.K H a (ts.map V.str) := by rw [c.K]; exact (sqF_le rs.sub hq).T
        obtain ⟨its, rv, pl, hz⟩ := I.tuple hq'
        exact call_tuple_index pl (ItemsEq.strs rv.strs) hk ⟨.int _, H, I.tok _, ⟨_, rfl⟩, o g H _ Le.rfl' rs rfl⟩
      · exact o.elim
    · exact o.elim
  · rename_i xs y
    obtain ⟨w, rfl, r1⟩ := rds.one
    split at o
    · rename_i ps p hps hp
      split at o
      · rename_i hk
        split at o
        · rename_i j hj
          obtain ⟨a, ws, rfl, hq, r2⟩ := id r
          have hl : Dp X.K H (.ref a) (.list ps) := by
            rw [c.K]
            exact dp_of rs.sub (.lst xs) r (by unfold D.py; rw [hps]; rfl)
          have hy : Dp X.K H w p := by rw [c.K]; exact dp_of rs.sub y r1 hp
          obtain ⟨hjl, hjt, hjf⟩ := List.findIdx?_eq_some_iff_getElem.mp hj
          have len : ps.length = xs.length := pys_length hps
          have at_ : ∀ (i : Nat) (d : D), xs[i]? = some d → ∃ q, ps[i]? = some q ∧ d.py = some q := fun i d e => pys_get hps e
          obtain ⟨q, hq1, hq2⟩ := at_ j xs[j] (List.getElem?_eq_getElem hjl)
          refine mt_indexD (by have q := c.room.in1.units; have q' : X.A.in1.units = X.A.units + 1 := rfl; omega) pins s σ H _ _ _ _ Q I rx rvs ⟨a, w, p, ps, j, q, rfl, rfl, hl, hy, hk.1, hk.2.1, hq1, ?_, fun m z' hm hz => ?_, o g H _ Le.rfl' rs rfl⟩
          · rw [← py_eqv _ _ hq2 hp hk.2.2]
            exact hjt
          · have hml : m < xs.length := by omega
            obtain ⟨q', e1, e2⟩ := at_ m xs[m] (List.getElem?_eq_getElem hml)
            rw [hz] at e1
            cases e1
            rw [← py_eqv _ _ e2 hp hk.2.2]
            simpa using hjf m hm
        · exact o.elim
      · exact o.elim
    · exact o.elim
  · rename_i m k y
    obtain ⟨w, z, rfl, r1, r2⟩ := rds.two
    obtain ⟨u1, u2, rfl, ru1, ru2⟩ := vals2 rvs
    split at o
    · rename_i ks vs e
      split at o
      · rename_i hk
        have hk' : keyS k = true ∧ ks.all keyS = true := by simpa [okKey] using hk.1
        obtain ⟨a, kvs, rfl, e2, h1, kr⟩ := ref_dct rs r e hk'.2
        obtain rfl := rd_key hk'.1 r1
        cases rx
        have hl : kvs.length < sizeLine := by
          have := kr.fk.length
          rw [List.length_map] at this
          rw [← lq, ← this]
          exact hk.2
        have hg := kr.get hk'.1
        refine d_setd I h1 ru1 ru2 hl (fun v hv w' s' I' rw' => ?_) (fun hv w' s' I' rw' => ?_)
        · split at o
          · rename_i d ed
            obtain ⟨v', hv', rd⟩ := hg.1 d ed
            rw [hv] at hv'
            cases hv'
            exact ⟨v, H, I', rw', o g H _ Le.rfl' rs rd⟩
          · rename_i ed
            rw [hg.2 ed] at hv
            cases hv
        · split at o
          · rename_i d ed
            obtain ⟨v', hv', rd⟩ := hg.1 d ed
            rw [hv] at hv'
            cases hv'
          · exact ⟨z, _, I', rw', o g _ _ Le.rfl' (rs.write e2 ((kr.put hk'.1 r2).ro a)) r2⟩
      · split at o
        · rename_i hk
          have hk' : keyT k = true ∧ ks.all keyT = true := by simpa [okT] using hk.1
          obtain ⟨a, ob, kv, vv, rfl, e2, ha, dob, rk, rv⟩ := ref_dct0 rs r e
          cases rx
          obtain ⟨xs, kt⟩ := dobj_T c.K c.p c.w I rs.sub ha dob rk rv hk'.2
          obtain ⟨b, rfl, rfl, hkey⟩ := key_is c.K I rs.sub hk'.1 r1 ru1
          have hx := kt.of
          rw [← c.p, ← c.w] at hx hkey
          have hg := kt.get hk'.1
          have hl : xs.length ≤ sizeLine := by rw [kt.len, ← lq]; exact Nat.le_of_lt hk.2
          refine call_setdefault_heap (hsz := hl) (by show X.A.units + 1 + 8 < cLine; have := c.hu; omega) hkey kt.nS hx (fun p hp => ?_) fun hp h' hm' hs => ?_
          · split at o
            · rename_i d ed
              obtain ⟨p', v', hv', rr, rd⟩ := hg.1 d ed
              rw [hp] at hv'
              cases hv'
              exact ⟨v', H, I.tok _, rr, o g H _ Le.rfl' rs rd⟩
            · rename_i ed
              rw [hg.2 ed] at hp
              cases hp
          · split at o
            · rename_i d ed
              obtain ⟨p', v', hv', rr, rd⟩ := hg.1 d ed
              rw [hp] at hv'
              cases hv'
            · rw [c.p, c.w] at hm'
              obtain ⟨o', I', rs'⟩ := put_T (tk := s.toks + (nestedKind X.prog X.w).draws (nk k)) I rs e2 ha dob (kt.put (h' := h') hk'.1 r1 r2 ru2 hm') (dput_ne _ _ _ _) hs
              exact ⟨z, _, I', ru2, o g _ _ Le.rfl' rs' r2⟩
        · exact o.elim
    · exact o.elim
  · rename_i k
    obtain ⟨w, rfl, r1⟩ := rds.one
    obtain ⟨u1, rfl, ru1⟩ := vals1 rvs
    split at o
    · rename_i ks vs e
      split at o
      · rename_i hk
        have hk' : keyS k = true ∧ ks.all keyS = true := by simpa [okKey] using hk
        obtain ⟨a, ob, kv, vv, rfl, ha, dob, rk, rv⟩ := dict_ok rs e r
        obtain ⟨kvs, rfl, kr⟩ := dobj_S dob rk rv hk'.2
        obtain rfl := rd_key hk'.1 r1
        cases rx
        have hg := kr.get hk'.1
        refine d_get1 (by have := c.hu; omega) I (.k ha) ru1 fun w' s' I' rw' => ⟨_, H, I', rw', o g H _ Le.rfl' rs ?_⟩
        cases hz : dget ks vs k with
        | none =>
          rw [hg.2 hz]
          rfl
        | some d =>
          obtain ⟨v', hv', rd⟩ := hg.1 d hz
          rw [hv']
          exact rd
      · split at o
        · rename_i hk
          have hk' : keyT k = true ∧ ks.all keyT = true := by simpa [okT] using hk
          obtain ⟨a, ob, kv, vv, rfl, ha, dob, rk, rv⟩ := dict_ok rs e r
          cases rx
          obtain ⟨xs, kt⟩ := dobj_T c.K c.p c.w I rs.sub ha dob rk rv hk'.2
          obtain ⟨b, rfl, rfl, hkey⟩ := key_is c.K I rs.sub hk'.1 r1 ru1
          have hx := kt.of
          rw [← c.p, ← c.w] at hx hkey
          have hg := kt.get hk'.1
          have hd : s.heap.DictKeyed (nestedKind X.prog X.w) a (pairsH xs) := ⟨xs, hx, rfl⟩
          refine get_keyed (by show X.A.units + 1 + 8 < cLine; have := c.hu; omega) hkey kt.nS hd ?_
          rw [valueAt_pairsH]
          cases hz : dget ks vs k with
          | none =>
            rw [hz] at o
            rw [hg.2 hz]
            exact ⟨.non, H, I.tok _, rfl, o g H _ Le.rfl' rs rfl⟩
          | some d =>
            obtain ⟨p, v', hv', rr, rd⟩ := hg.1 d hz
            rw [hz] at o
            rw [hv']
            exact ⟨v', H, I.tok _, rr, o g H _ Le.rfl' rs rd⟩
        · exact o.elim
    · exact o.elim
  · rename_i m y
    obtain ⟨w, rfl, r1⟩ := rds.one
    obtain ⟨u1, rfl, ru1⟩ := vals1 rvs
    split at o
    · rename_i ks vs ls ws e e3
      split at o
      · rename_i hk
        obtain ⟨h1, h2, h3, h4⟩ := hk
        obtain ⟨a, kvs, rfl, e2, q1, kr⟩ := ref_dct rs r e h1
        obtain ⟨b, ob, kv, vv, rfl, q2, dob, rk, rv⟩ := dict_ok rs e3 r1
        obtain ⟨kws, rfl, kr2⟩ := dobj_S dob rk rv h2
        cases rx; cases ru1
        have hne : a ≠ b := fun z => by
          subst z
          cases y with
          | ref m' =>
            obtain ⟨b', e4, z⟩ := r1
            cases z
            have hm : m' = m := (List.getElem?_inj (List.getElem?_eq_some_iff.mp e4).1 rs.nod).mp (e4.trans e2.symm)
            subst hm
            simp [D.notRef] at h4
          | dct k2 v2 =>
            obtain ⟨a', o', _, _, z, q3, _⟩ := r1
            cases z
            rw [rs.out _ (List.mem_of_getElem? e2)] at q3
            cases q3
          | _ => cases e3
        obtain ⟨z1, hd1, us1, rel1, dd1⟩ := dk_of I.hok q1
        obtain ⟨z2, hd2, us2, rel2, dd2⟩ := dk_of I.hok q2
        have l1 := rel1.length
        have l2 := rel2.length
        have m1 := kr.fk.length
        have m2 := kr2.fk.length
        rw [List.length_map] at m1 m2
        have ml := merged_len kws kvs
        have hz : kvs.length + kws.length ≤ sizeLine := by rw [← m1, ← m2, ← lq]; exact h3
        refine call_meetsIn PySem.F.slot_dict_update dd1.typeIs PySem.F.entry_dict_update (PySem.F.args_dict_update_2 _ _) (meets_dict_update (mixKind X.prog X.w) a b hne hd2) ⟨us1, us2, dd1, dd2, by omega, fun h' hmm _ hs => ?_⟩
        have he : ∃ q, h'.get? a = some q := let ⟨q, _, _, hq, _⟩ := hmm; ⟨q, hq⟩
        exact ⟨.non, _, d_write (t' := s.toks) I (by rw [q1]; exact True.intro) hs he (dk_new (by omega) hd1 (kv_merged rel2 rel1) hmm), rfl, o g _ _ Le.rfl' (rs.write e2 ((krel_merged kr2 kr).ro a)) rfl⟩
      · exact o.elim
    · exact o.elim
  · exact o.elim
end
end Z
end

section
set_option Elab.async false
set_option linter.all false
set_option maxRecDepth 100000
set_option maxHeartbeats 4000000
/-! Z: behind a call new things are frozen and let go. -/
namespace Z
open PySem PySem.W PySem.Spec PyProof.Rows L2
open Classical in
/-- the things from k on are frozen as they stand -/
noncomputable def cutG (g : Gh) (k : Nat) (H : Hp) : Gh := ⟨fun a => if a ∈ g.ρ.drop k then H a else g.hs a, g.ρ.take k, g.pn⟩
section
variable {W : Wd} {g g' : Gh} {S S' : List O} {H H' : Hp} {k : Nat}
theorem mem_drop_mem {α : Type} {l : List α} {k : Nat} {a : α} (h : a ∈ l.drop k) : a ∈ l := (List.drop_sublist k l).mem h
theorem cut_hs (rs : RS W g S H) {a : Addr} {o : HO} (e : g.hs a = some o) : (cutG g k H).hs a = some o := by
  show (if a ∈ g.ρ.drop k then H a else g.hs a) = some o
  rw [if_neg]
  · exact e
  · intro h
    rw [rs.out a (mem_drop_mem h)] at e
    cases e
theorem cut_ρ {n : Nat} {a : Addr} (e : g.ρ[n]? = some a) (h : n < k) : (cutG g k H).ρ[n]? = some a := by
  show (g.ρ.take k)[n]? = some a
  rw [List.getElem?_take_of_lt h]
  exact e
theorem cut_new (rs : RS W g S H) {n : Nat} {a : Addr} {o : HO} (e : g.ρ[n]? = some a) (h : ¬ n < k) (q : H a = some o) : (cutG g k H).hs a = some o := by
  show (if a ∈ g.ρ.drop k then H a else g.hs a) = some o
  rw [if_pos]
  · exact q
  · refine List.mem_of_getElem? (i := n - k) ?_
    rw [List.getElem?_drop]
    rw [show k + (n - k) = n by omega]
    exact e
mutual
theorem RD.cut (rs : RS W g S H) : ∀ {d : D} {v : V}, RD W g d v → d.und k = true → RD W (cutG g k H) d v
  | .non, _, h, _ => h
  | .bl _, _, h, _ => h
  | .int _, _, h, _ => h
  | .str _, _, h, _ => h
  | .tup ds, _, h, u => by
    obtain ⟨a, vs, e, s, r⟩ := h
    exact ⟨a, vs, e, sqF_le (fun _ _ => cut_hs rs) s, RDs.cut' rs r u⟩
  | .lst ds, _, h, u => by
    obtain ⟨a, vs, e, s, r⟩ := h
    exact ⟨a, vs, e, cut_hs rs s, RDs.cut' rs r u⟩
  | .scr ds, _, h, u => by
    obtain ⟨a, vs, e, s, r⟩ := h
    exact ⟨a, vs, e, sqL_le (fun _ _ => cut_hs rs) s, RDs.cut' rs r u⟩
  | .dct ks ds, _, h, u => by
    obtain ⟨a, o, kv, vv, e, s, t, r, q⟩ := h
    have u2 := Bool.and_eq_true_iff.mp u
    exact ⟨a, o, kv, vv, e, cut_hs rs s, t, RDs.cut' rs r u2.1, RDs.cut' rs q u2.2⟩
  | .set _, _, h, _ => by
    obtain ⟨h0, a, e, s⟩ := h
    exact ⟨h0, a, e, cut_hs rs s⟩
  | .ins c fs ds, _, h, u => by
    obtain ⟨a, dx, vs, e, s, t, r⟩ := h
    exact ⟨a, dx, vs, e, cut_hs rs s, t, RDs.cut' rs r u⟩
  | .exc _ d, _, h, u => by
    obtain ⟨a, dx, v', e, s, t, r⟩ := h
    exact ⟨a, dx, v', e, cut_hs rs s, cut_hs rs t, RD.cut rs r u⟩
  | .ref n, _, h, u => by
    obtain ⟨a, e, q⟩ := h
    exact ⟨a, cut_ρ e (of_decide_eq_true u), q⟩
  | .fn _, _, h, _ => h
  | .cls _, _, h, _ => h
  | .ty _, _, h, _ => h
theorem RDs.cut' (rs : RS W g S H) : ∀ {ds : List D} {vs : List V}, RDs W g ds vs → unds k ds = true → RDs W (cutG g k H) ds vs
  | [], _, h, _ => h
  | d :: ds, _, h, u => by
    obtain ⟨v, r, e, h1, h2⟩ := h
    have u2 := Bool.and_eq_true_iff.mp u
    exact ⟨v, r, e, RD.cut rs h1 u2.1, RDs.cut' rs h2 u2.2⟩
end
theorem RO.cut (rs : RS W g S H) {a : Addr} {o : O} {ho : HO} (h : RO W g a o ho) (u : O.und k o = true) : RO W (cutG g k H) a o ho := by
  cases o with
  | lst ds => obtain ⟨vs, e, r⟩ := h; exact ⟨vs, e, r.cut' rs u⟩
  | dct ks ds =>
    obtain ⟨kv, vv, e, r, q⟩ := h
    have u2 := Bool.and_eq_true_iff.mp u
    exact ⟨kv, vv, e, r.cut' rs u2.1, q.cut' rs u2.2⟩
  | ins c fs ds => obtain ⟨dx, vs, e, t, r⟩ := h; exact ⟨dx, vs, e, t, r.cut' rs u⟩
theorem RO.und {a : Addr} {o : O} {ho : HO} (h : RO W g a o ho) : O.und g.ρ.length o = true := by
  cases o with
  | lst ds => obtain ⟨vs, e, r⟩ := h; exact r.und
  | dct ks ds =>
    obtain ⟨kv, vv, e, r, q⟩ := h
    exact Bool.and_eq_true_iff.mpr ⟨r.und, q.und⟩
  | ins c fs ds => obtain ⟨dx, vs, e, t, r⟩ := h; exact r.und
theorem unds_map {f : D → D} {k : Nat} : ∀ {ds : List D}, unds k (ds.map f) = true → ∀ d ∈ ds, (f d).und k = true
  | [], _, _, h => by cases h
  | d :: ds, h, e, he => by
    have u2 := Bool.and_eq_true_iff.mp (show ((f d).und k && unds k (ds.map f)) = true from h)
    rcases List.mem_cons.mp he with rfl | he
    · exact u2.1
    · exact unds_map u2.2 e he
theorem RDs.mapf {f : D → D} (h : ∀ (d : D) (v : V), RD W g d v → (f d).und k = true → RD W g' (f d) v) : ∀ {ds : List D} {vs : List V}, RDs W g ds vs → unds k (ds.map f) = true → RDs W g' (ds.map f) vs
  | [], _, r, _ => r
  | d :: ds, _, r, u => by
    obtain ⟨v, t, e, h1, h2⟩ := r
    have u2 := Bool.and_eq_true_iff.mp (show ((f d).und k && unds k (ds.map f)) = true from u)
    exact ⟨v, t, e, h d v h1 u2.1, RDs.mapf h h2 u2.2⟩
theorem RD.frz (rs : RS W g S H) : ∀ (m : Nat) (d : D) (v : V), RD W g d v → (frz S k m d).und k = true → RD W (cutG g k H) (frz S k m d) v
  | 0, d, v, r, u => RD.cut rs r u
  | m + 1, d, v, r, u => by
    unfold Z.frz at u ⊢
    split at u
    · rename_i hu
      rw [if_pos hu]
      exact RD.cut rs r hu
    · rename_i hu
      rw [if_neg hu]
      have ih := RD.frz rs m
      cases d with
      | tup ds =>
        obtain ⟨a, vs, e, s, r⟩ := r
        exact ⟨a, vs, e, sqF_le (fun _ _ => cut_hs rs) s, RDs.mapf ih r u⟩
      | lst ds =>
        obtain ⟨a, vs, e, s, r⟩ := r
        exact ⟨a, vs, e, cut_hs rs s, RDs.mapf ih r u⟩
      | dct ks ds =>
        obtain ⟨a, o, kv, vv, e, s, t, r, q⟩ := r
        have u2 := Bool.and_eq_true_iff.mp u
        exact ⟨a, o, kv, vv, e, cut_hs rs s, t, r.cut' rs u2.1, RDs.mapf ih q u2.2⟩
      | ins c fs ds =>
        obtain ⟨a, dx, vs, e, s, t, r⟩ := r
        exact ⟨a, dx, vs, e, cut_hs rs s, t, RDs.mapf ih r u⟩
      | exc c d =>
        obtain ⟨a, dx, v', e, s, t, r⟩ := r
        exact ⟨a, dx, v', e, cut_hs rs s, cut_hs rs t, ih _ _ r u⟩
      | ref n =>
        obtain ⟨a, e, q⟩ := r
        subst q
        have hn : ¬ n < k := fun z => hu (decide_eq_true z)
        dsimp only at u ⊢
        cases he : S[n]? with
        | none =>
          rw [he] at u
          exact absurd (of_decide_eq_true u) hn
        | some o =>
          rw [he] at u
          obtain ⟨ho, h1, h2⟩ := rs.obj n o a he e
          cases o with
          | lst ds =>
            obtain ⟨vs, rfl, h3⟩ := h2
            exact ⟨a, vs, rfl, cut_new rs e hn h1, RDs.mapf ih h3 u⟩
          | dct ks ds =>
            obtain ⟨kv, vv, h3, h4, h5⟩ := h2
            have u2 := Bool.and_eq_true_iff.mp u
            exact ⟨a, ho, kv, vv, rfl, cut_new rs e hn h1, h3, h4.cut' rs u2.1, RDs.mapf ih h5 u2.2⟩
          | ins c fs ds =>
            obtain ⟨dx, vs, rfl, t, h3⟩ := h2
            exact ⟨a, dx, vs, rfl, cut_new rs e hn h1, t, RDs.mapf ih h3 u⟩
      | _ => exact absurd u hu
theorem RS.cut (rs : RS W g S H) (hk : k ≤ S.length) (h : (S.take k).all (O.und k) = true) : RS W (cutG g k H) (S.take k) H := by
  refine ⟨?_, fun a o e => ?_, ?_, fun a ha => ?_, rs.pin, fun a o e => ?_, fun n o a e1 e2 => ?_⟩
  · show (g.ρ.take k).length = (S.take k).length
    rw [List.length_take, List.length_take, rs.len]
  · have e' : (if a ∈ g.ρ.drop k then H a else g.hs a) = some o := e
    split at e'
    · exact e'
    · exact rs.sub a o e'
  · exact (List.take_sublist k g.ρ).nodup rs.nod
  · show (if a ∈ g.ρ.drop k then H a else g.hs a) = none
    have hm : a ∈ g.ρ := (List.take_sublist k g.ρ).mem ha
    rw [if_neg]
    · exact rs.out a hm
    · intro hd
      have nd := rs.nod
      rw [← List.take_append_drop k g.ρ] at nd
      exact (List.nodup_append.mp nd).2.2 a ha a hd rfl
  · obtain ⟨h1, h2⟩ := rs.pdj a o e
    refine ⟨?_, fun hm => h2 ((List.take_sublist k g.ρ).mem hm)⟩
    show (if a ∈ g.ρ.drop k then H a else g.hs a) = none
    rw [if_neg fun hm => h2 (mem_drop_mem hm)]
    exact h1
  · have hn : n < k := by
      have := (List.getElem?_eq_some_iff.mp e1).1
      rw [List.length_take] at this
      omega
    have e1' : S[n]? = some o := by
      rw [List.getElem?_take_of_lt hn] at e1
      exact e1
    have e2' : g.ρ[n]? = some a := by
      have : (g.ρ.take k)[n]? = some a := e2
      rw [List.getElem?_take_of_lt hn] at this
      exact this
    obtain ⟨ho, h1, h2⟩ := rs.obj n o a e1' e2'
    exact ⟨ho, h1, h2.cut rs (List.all_eq_true.mp h o (List.mem_of_getElem? e1))⟩
theorem RS.unds (rs : RS W g S H) : S.all (O.und S.length) = true := by
  refine List.all_eq_true.mpr fun o ho => ?_
  obtain ⟨n, e⟩ := List.mem_iff_getElem?.mp ho
  have hn := (List.getElem?_eq_some_iff.mp e).1
  have : n < g.ρ.length := by rw [rs.len]; exact hn
  obtain ⟨u, _, h2⟩ := rs.obj n o g.ρ[n] e (by simp)
  have := h2.und
  rw [rs.len] at this
  exact this
/-- the store is cut at k, new things stay as frozen ones -/
theorem fin_ok {H0 : Hp} {d : D} {v : V} (rs : RS W g S H0) (rs' : RS W g' S' H') (le : Le g g') (rd : RD W g' d v) (h1 : S.length ≤ S'.length) (h2 : (frz S' S.length 12 d).und S.length = true)
    (h3 : S'.take S.length = S ∨ (S'.take S.length).all (O.und S.length) = true) : ∃ g2, Le g g2 ∧ RS W g2 (S'.take S.length) H' ∧ RD W g2 (frz S' S.length 12 d) v := by
  have h4 : (S'.take S.length).all (O.und S.length) = true := by
    rcases h3 with h3 | h3
    · rw [h3]
      exact rs.unds
    · exact h3
  refine ⟨cutG g' S.length H', ⟨fun a o e => cut_hs rs' (le.hs a o e), fun n a e => cut_ρ (le.ρ n a e) ?_, le.pn⟩, rs'.cut h1 h4, RD.frz rs' 12 d v rd h2⟩
  rw [← rs.len]
  exact (List.getElem?_eq_some_iff.mp e).1
end
end Z
end

section
set_option Elab.async false
set_option linter.all false
set_option maxRecDepth 100000
set_option maxHeartbeats 4000000
/-! Z, part 11: expressions. -/
namespace Z
open PySem PySem.W PySem.Spec PyProof.Rows L2 PySem.SeqAt
section
variable {W : Wd} {Φ : Fn} {n : Nat} {E : WX} {X : Cx} {T : Tab} {g : Gh} {S : List O} {H : Hp} {pins : List (Addr × Obj)} {σ : L2.St} {s : Shared}
variable {a b d e : Expr} {la lb lc l : LE} {pos p p2 : Pos}
abbrev EV (W : Wd) (E : WX) (T : Tab) (Φ : Fn) (l : LE) : TE := tEv W E (ev T Φ l)
abbrev EVs (W : Wd) (E : WX) (T : Tab) (Φ : Fn) (l : LEs) : TA := tEvs W E (evs T Φ l)
/-- a test by the evaluator -/
noncomputable def tst (T : Tab) (Φ : Fn) (l : LE) : St → List O → R Bool := fun σ S => (ev T Φ l σ S).bind fun x S => match truth S x with
  | some k => .ok k S
  | none => .bad
abbrev EVb (W : Wd) (E : WX) (T : Tab) (Φ : Fn) (l : LE) : TT := tEvB W E (tst T Φ l)
theorem truth_ok (c : Cs W Φ n E X) (rs : RS W g S H) {x : D} {v : V} (r : RD W g x v) {k : Bool} (e : truth S x = some k) : TruV X.K v H k := by
  have key : ∀ {ds : List D}, items? S x = some ds → k = !ds.isEmpty → TruV X.K v H k := fun {ds} h hk => by
    obtain ⟨a, vs, rfl, hq, r1⟩ := items_ok rs h r
    have he : (!vs.isEmpty) = !ds.isEmpty := by
      have := r1.length
      cases ds <;> cases vs <;> first | rfl | simp at this
    rw [c.K, hk, ← he]
    rcases hq with hq | hq
    · exact .inr (.inl ⟨vs, hq, rfl⟩)
    · exact .inl ⟨vs, hq, rfl⟩
  unfold truth at e
  split at e
  · cases r; cases e; rfl
  · cases r; cases e; rfl
  · cases r; cases e; rfl
  · cases r
    split at e
    · rename_i hl
      cases e
      exact ⟨by rw [← lim_eq]; exact hl, rfl⟩
    · cases e
  · split at e
    · rename_i ds h
      cases e
      exact key h rfl
    · cases e
/-! names, constants -/
theorem pe_varZ {i : Nat} {x : Str} (hN : X.N[i]? = some x) (hv : Vis X.env.scope x) (hd : (x == ("__debug__" : Str)) = false) (hcd : (x == ("__classdict__" : Str)) = false) : PE X (.Name x pos) (EV W E T Φ (.var i)) :=
  PE.mono (pe_var hN hv hd hcd) fun σ H Q ⟨g, S, σd, rs, rst, o⟩ => by
    simp only [ev] at o
    split at o
    · rename_i d hd
      obtain ⟨v, e, r⟩ := rst i d hd
      exact ⟨v, e, o g H v Le.rfl' rs r⟩
    · exact o.elim
theorem pe_cstZ {d : D} {v : V} (h : PE X e (tC v)) (r : ∀ g, RD W g d v) : PE X e (EV W E T Φ (.cst d)) :=
  PE.mono h fun σ H Q ⟨g, S, σd, rs, rst, o⟩ => by
    simp only [ev] at o
    exact o g H v Le.rfl' rs (r g)
/-! operators -/
theorem pe_binZ (c : Cs W Φ n E X) (no : NoOps T) {op : Operator} (ha : PE X a (EV W E T Φ la)) (hb : PE X b (EV W E T Φ lb)) : PE X (.BinOp a op b pos) (EV W E T Φ (.bin op la lb)) := by
  refine ⟨fun pins s σ H Q I h => ?_⟩
  obtain ⟨g, S, σd, rs, rst, o⟩ := h
  simp only [ev] at o
  refine wpAny_BinOp (thn (ha.run pins s σ H _ I ⟨g, S, σd, rs, rst, OutG.bind rst o⟩) fun v s1 ⟨x, H1, I1, r1, g1, S1, d1, le1, rs1, rst1, rd1, o1⟩ => ?_)
  refine thn (hb.run pins s1 σ H1 _ I1 ⟨g1, S1, σd, rs1, rst1, OutG.bind rst1 o1⟩) fun u s2 ⟨y, H2, I2, r2, g2, S2, d2, le2, rs2, rst2, rd2, o2⟩ => ?_
  exact op_bin c no pins s2 σ H2 x y v u Q I2 r1 r2 ⟨g2, S2, d1, d2, rs2, rd1.mono le2, rd2, o2⟩
theorem pe_negZ (ha : PE X a (EV W E T Φ la)) : PE X (.UnaryOp .USub a pos) (EV W E T Φ (.neg la)) := by
  refine ⟨fun pins s σ H Q I h => ?_⟩
  obtain ⟨g, S, σd, rs, rst, o⟩ := h
  simp only [ev] at o
  refine UnaryOp_ (thn (ha.run pins s σ H _ I ⟨g, S, σd, rs, rst, OutG.bind rst o⟩) fun v s1 ⟨x, H1, I1, r1, g1, S1, d1, le1, rs1, rst1, rd1, o1⟩ => ?_)
  cases d1 with
  | int i =>
    cases rd1
    exact un_neg pins s1 σ H1 _ v Q I1 r1 ⟨i, rfl, o1 g1 H1 _ Le.rfl' rs1 rfl⟩
  | _ => exact o1.elim
theorem pe_cmpZ (c : Cs W Φ n E X) (wf : Wf W T) {op : CmpOp} (ha : PE X a (EV W E T Φ la)) (hb : PE X b (EV W E T Φ lb)) (hm : behindInMarks op b = false) : PE X (.Compare a [op] [b] pos) (EV W E T Φ (.cmp op la lb)) := by
  refine ⟨fun pins s σ H Q I h => ?_⟩
  obtain ⟨g, S, σd, rs, rst, o⟩ := h
  simp only [ev] at o
  refine wpAny_Compare1 (thn (ha.run pins s σ H _ I ⟨g, S, σd, rs, rst, OutG.bind rst o⟩) fun v s1 ⟨x, H1, I1, r1, g1, S1, d1, le1, rs1, rst1, rd1, o1⟩ => ?_) hm
  refine thn (hb.run pins s1 σ H1 _ I1 ⟨g1, S1, σd, rs1, rst1, OutG.bind rst1 o1⟩) fun u s2 ⟨y, H2, I2, r2, g2, S2, d2, le2, rs2, rst2, rd2, o2⟩ => ?_
  exact op_cmp c wf pins s2 σ H2 x y v u Q I2 r1 r2 ⟨g2, S2, d1, d2, rs2, rd1.mono le2, rd2, o2⟩
theorem pe_chnZ (c : Cs W Φ n E X) (wf : Wf W T) {op op' : CmpOp} (ha : PE X a (EV W E T Φ la)) (hb : PE X b (EV W E T Φ lb)) (hd : PE X d (EV W E T Φ lc)) (hm : lastMarks [op, op'] [b, d] = false) : PE X (.Compare a [op, op'] [b, d] pos) (EV W E T Φ (.chn op op' la lb lc)) := by
  refine ⟨fun pins s σ H Q I h => ?_⟩
  obtain ⟨g, S, σd, rs, rst, o⟩ := h
  simp only [ev] at o
  refine Compare_chain (thn (ha.run pins s σ H _ I ⟨g, S, σd, rs, rst, OutG.bind rst o⟩) fun v s1 ⟨x, H1, I1, r1, g1, S1, d1, le1, rs1, rst1, rd1, o1⟩ => chain_link (thn (hb.run pins s1 σ H1 _ I1 ⟨g1, S1, σd, rs1, rst1, OutG.bind rst1 o1⟩) fun u s2 ⟨y, H2, I2, r2, g2, S2, d2, le2, rs2, rst2, rd2, o2⟩ =>
    thn (op_cmp c wf pins s2 σ H2 x y v u _ I2 r1 r2 ⟨g2, S2, d1, d2, rs2, rd1.mono le2, rd2, OutG.bind rst2 o2⟩) fun w s3 ⟨z, H3, I3, r3, g3, S3, d3, le3, rs3, rst3, rd3, o3⟩ => ?_)) hm
  cases d3 with
  | bl k =>
    cases rd3
    cases r3
    refine wpAny_truthy_bool ?_
    cases k with
    | false => exact ite_ff ⟨.bl false, H3, I3, rfl, o3 g3 H3 _ Le.rfl' rs3 rfl⟩
    | true => exact ite_tt (chain_last (thn (hd.run pins s3 σ H3 _ I3 ⟨g3, S3, σd, rs3, rst3, OutG.bind rst3 o3⟩) fun w' s4 ⟨z', H4, I4, r4, g4, S4, d4, le4, rs4, rst4, rd4, o4⟩ =>
        op_cmp c wf pins s4 σ H4 y z' u w' Q I4 r2 r4 ⟨g4, S4, d2, d4, rs4, RD.mono le4.to0 (RD.mono le3.to0 rd2), rd4, o4⟩))
  | _ => exact o3.elim
/-! and, or, not, if as values -/
theorem tru_at (c : Cs W Φ n E X) (I : Inv X pins σ H s) (rs : RS W g S H) {x : D} {v : V} {u : Value} (r : RD W g x v) (rv : RelV v u) {k : Bool} (e : truth S x = some k) {Q : Bool → Shared → Prop} (h : ∀ s', Inv X pins σ H s' → Q k s') :
    wpAny (model X.prog X.w) X.A (truthy u) Q X.xe s := by
  refine thn (tru_ok pins s σ H v u (fun c H2 => c = k ∧ H2 = H) I rv ⟨k, truth_ok c rs r e, rfl, rfl⟩) fun c' s2 hc => ?_
  obtain ⟨H2, I2, rfl, rfl⟩ := hc
  exact h s2 I2
theorem pe_andZ (c : Cs W Φ n E X) {rest : List Expr} (ha : PE X a (EV W E T Φ la)) (hb : PE X (.BoolOp .And (b :: rest) pos) (EV W E T Φ lb)) : PE X (.BoolOp .And (a :: b :: rest) pos) (EV W E T Φ (.and la lb)) := by
  refine ⟨fun pins s σ H Q I h => ?_⟩
  obtain ⟨g, S, σd, rs, rst, o⟩ := h
  simp only [ev] at o
  refine BoolOp_and (thn (ha.run pins s σ H _ I ⟨g, S, σd, rs, rst, OutG.bind rst o⟩) fun v s1 ⟨x, H1, I1, r1, g1, S1, d1, le1, rs1, rst1, rd1, o1⟩ => ?_)
  dsimp only at o1
  split at o1
  · rename_i e
    exact tru_at c I1 rs1 rd1 r1 e fun s2 I2 => hb.run pins s2 σ H1 Q I2 ⟨g1, S1, σd, rs1, rst1, o1⟩
  · rename_i e
    exact tru_at c I1 rs1 rd1 r1 e fun s2 I2 => ⟨x, H1, I2, r1, o1 g1 H1 _ Le.rfl' rs1 rd1⟩
  · exact o1.elim
theorem pe_orZ (c : Cs W Φ n E X) {rest : List Expr} (ha : PE X a (EV W E T Φ la)) (hb : PE X (.BoolOp .Or (b :: rest) pos) (EV W E T Φ lb)) : PE X (.BoolOp .Or (a :: b :: rest) pos) (EV W E T Φ (.or la lb)) := by
  refine ⟨fun pins s σ H Q I h => ?_⟩
  obtain ⟨g, S, σd, rs, rst, o⟩ := h
  simp only [ev] at o
  refine BoolOp_or (thn (ha.run pins s σ H _ I ⟨g, S, σd, rs, rst, OutG.bind rst o⟩) fun v s1 ⟨x, H1, I1, r1, g1, S1, d1, le1, rs1, rst1, rd1, o1⟩ => ?_)
  dsimp only at o1
  split at o1
  · rename_i e
    exact tru_at c I1 rs1 rd1 r1 e fun s2 I2 => ⟨x, H1, I2, r1, o1 g1 H1 _ Le.rfl' rs1 rd1⟩
  · rename_i e
    exact tru_at c I1 rs1 rd1 r1 e fun s2 I2 => hb.run pins s2 σ H1 Q I2 ⟨g1, S1, σd, rs1, rst1, o1⟩
  · exact o1.elim
theorem pe_notZ (c : Cs W Φ n E X) (ha : PE X a (EV W E T Φ la)) : PE X (.UnaryOp .Not a pos) (EV W E T Φ (.not la)) := by
  refine ⟨fun pins s σ H Q I h => ?_⟩
  obtain ⟨g, S, σd, rs, rst, o⟩ := h
  simp only [ev] at o
  refine UnaryOp_ (thn (ha.run pins s σ H _ I ⟨g, S, σd, rs, rst, OutG.bind rst o⟩) fun v s1 ⟨x, H1, I1, r1, g1, S1, d1, le1, rs1, rst1, rd1, o1⟩ => ?_)
  dsimp only at o1
  split at o1
  · rename_i k e
    exact not_of (tru_at c I1 rs1 rd1 r1 e fun s2 I2 => ⟨.bl (!k), H1, I2, rfl, o1 g1 H1 _ Le.rfl' rs1 rfl⟩)
  · exact o1.elim
/-! tests -/
theorem tst_bind {α : Type} {f : Bool → List O → R α} {σd : St} : ((tst T Φ l σd S).bind f) = (ev T Φ l σd S).bind fun x S => match truth S x with | some k => f k S | none => .bad := by
  unfold tst
  cases ev T Φ l σd S with
  | ok x S1 =>
    simp only [R.bind_ok]
    cases truth S1 x <;> rfl
  | err e S => rfl
  | bad => rfl
theorem pt_plainZ (c : Cs W Φ n E X) (ha : PE X a (EV W E T Φ la)) (he : ∀ whole, isTrue a X.env whole = (do let v ← whole; standAt a.pos; holding [v] (truthy v))) : PT X a (EVb W E T Φ la) := by
  refine ⟨fun pins s σ H Q I h => ?_⟩
  obtain ⟨g, S, σd, rs, rst, o⟩ := h
  unfold tst at o
  refine isTrue_plain (thn (ha.run pins s σ H _ I ⟨g, S, σd, rs, rst, OutG.bind rst o⟩) fun v s1 ⟨x, H1, I1, r1, g1, S1, d1, le1, rs1, rst1, rd1, o1⟩ => ?_) (he _)
  dsimp only at o1
  split at o1
  · rename_i k e
    exact tru_at c I1 rs1 rd1 r1 e fun s2 I2 => ⟨H1, I2, o1 g1 H1 _ Le.rfl' rs1 rfl⟩
  · exact o1.elim
theorem pt_cmpZ (c : Cs W Φ n E X) (wf : Wf W T) {op : CmpOp} (ha : PE X a (EV W E T Φ la)) (hb : PE X b (EV W E T Φ lb)) (hm : behindInMarks op b = false) : PT X (.Compare a [op] [b] pos) (EVb W E T Φ (.cmp op la lb)) := by
  refine ⟨fun pins s σ H Q I h => ?_⟩
  obtain ⟨g, S, σd, rs, rst, o⟩ := h
  unfold tst at o
  have o' := OutG.bind (rel := RD W) rst o
  simp only [ev] at o'
  refine wpAny_isTrue_Compare1 (thn (ha.run pins s σ H _ I ⟨g, S, σd, rs, rst, OutG.bind rst o'⟩) fun v s1 ⟨x, H1, I1, r1, g1, S1, d1, le1, rs1, rst1, rd1, o1⟩ => ?_) hm
  refine thn (hb.run pins s1 σ H1 _ I1 ⟨g1, S1, σd, rs1, rst1, OutG.bind rst1 o1⟩) fun u s2 ⟨y, H2, I2, r2, g2, S2, d2, le2, rs2, rst2, rd2, o2⟩ => ?_
  refine thn (op_cmp c wf pins s2 σ H2 x y v u _ I2 r1 r2 ⟨g2, S2, d1, d2, rs2, rd1.mono le2, rd2, o2⟩) fun w s3 ⟨z, H3, I3, r3, g3, S3, d3, le3, rs3, rst3, rd3, o3⟩ => ?_
  dsimp only at o3
  split at o3
  · rename_i k e
    exact tru_at c I3 rs3 rd3 r3 e fun s2 I2 => ⟨H3, I2, o3 g3 H3 _ Le.rfl' rs3 rfl⟩
  · exact o3.elim
theorem pt_notZ (ha : PT X a (EVb W E T Φ la)) : PT X (.UnaryOp .Not a pos) (EVb W E T Φ (.not la)) := by
  refine PT.mono (pt_not ha) fun σ H Q ⟨g, S, σd, rs, rst, o⟩ => ?_
  refine ⟨g, S, σd, rs, rst, ?_⟩
  unfold tst at o ⊢
  simp only [ev] at o
  cases hx : ev T Φ la σd S with
  | ok x S1 =>
    rw [hx] at o
    simp only [R.bind_ok] at o ⊢
    cases ht : truth S1 x with
    | some k =>
      rw [ht] at o
      simp only [R.bind_ok] at o
      intro g' H' v le rs' e
      cases e
      exact o g' H' _ le rs' rfl
    | none => rw [ht] at o; exact o
  | err e S => rw [hx] at o; exact o
  | bad => rw [hx] at o; exact o
end
end Z
end

section
set_option Elab.async false
set_option linter.all false
set_option maxRecDepth 100000
set_option maxHeartbeats 4000000
/-! Z, part 12: calls, attributes, methods, displays, subscripts. -/
namespace Z
open PySem PySem.W PySem.Spec PyProof.Rows L2 PySem.SeqAt
def isStar : Expr → Bool
  | .Starred _ _ => true
  | _ => false
theorem starEach_cons {e : Expr} {es : List Expr} {env : Env} (h : isStar e = false) : starEach (e :: es) env = (false, eval e env) :: starEach es env := by
  cases e <;> first | rfl | cases h
def noStars (es : List Expr) : Bool := es.all fun e => !isStar e
theorem noStars_any {env : Env} {pos : Pos} : ∀ {es : List Expr}, noStars es = true → (backTo pos (starEach es env)).any (·.1) = false
  | [], _ => rfl
  | e :: es, h => by
    obtain ⟨h1, h2⟩ := all_cons h
    rw [starEach_cons (by simpa using h1)]
    show (false || (backTo pos (starEach es env)).any (·.1)) = false
    rw [noStars_any h2]
    rfl
theorem noStars_all {env : Env} {pos : Pos} : ∀ {es : List Expr}, noStars es = true → (backTo pos (starEach es env)).all (fun x => !x.1) = true
  | [], _ => rfl
  | e :: es, h => by
    obtain ⟨h1, h2⟩ := all_cons h
    rw [starEach_cons (by simpa using h1)]
    show (!false && (backTo pos (starEach es env)).all (fun x => !x.1)) = true
    rw [noStars_all h2]
    rfl
section
variable {W : Wd} {Φ : Fn} {n : Nat} {E : WX} {X : Cx} {T : Tab} {g : Gh} {S : List O} {H : Hp} {pins : List (Addr × Obj)} {σ : L2.St} {s : Shared}
variable {a b d e : Expr} {args : List Expr} {la lb lc l : LE} {es : LEs} {pos p p2 apos : Pos}
/-! arguments -/
theorem pa_nilZ : PA X [] (EVs W E T Φ .nil) := PA.mono pa_nil fun σ H Q ⟨g, S, σd, rs, rst, o⟩ => by
  simp only [evs] at o
  exact o g H [] Le.rfl' rs rfl
theorem pa_consZ (ha : PE X a (EV W E T Φ la)) (hr : PA X args (EVs W E T Φ es)) (hs : isStar a = false) : PA X (a :: args) (EVs W E T Φ (.cons la es)) := by
  refine PA.mono (pa_cons ha hr (starEach_cons hs)) fun σ H Q ⟨g, S, σd, rs, rst, o⟩ => ?_
  simp only [evs] at o
  refine ⟨g, S, σd, rs, rst, OutG.mono (OutG.bind rst o) fun v H1 ⟨g1, S1, d1, le1, rs1, rst1, rd1, o1⟩ => ?_⟩
  refine ⟨g1, S1, σd, rs1, rst1, OutG.mono (OutG.bind rst1 o1) fun vs H2 ⟨g2, S2, d2, le2, rs2, rst2, rd2, o2⟩ => ?_⟩
  exact o2 g2 H2 _ Le.rfl' rs2 ⟨v, vs, rfl, rd1.mono le2, rd2⟩
theorem pa_starZ (c : Cs W Φ n E X) (ha : PE X a (EV W E T Φ la)) (hr : PA X args (EVs W E T Φ es)) : PA X (.Starred a p :: args) (EVs W E T Φ (.star la es)) := by
  refine PA.mono (StX.pa_star ha hr) fun σ H Q ⟨g, S, σd, rs, rst, o⟩ => ?_
  simp only [evs] at o
  refine ⟨g, S, σd, rs, rst, OutG.mono (OutG.bind rst o) fun v H1 ⟨g1, S1, d1, le1, rs1, rst1, rd1, o1⟩ => ?_⟩
  dsimp only at o1
  split at o1
  · rename_i ds hi
    obtain ⟨q, vs, rfl, hq, r⟩ := items_ok rs1 hi rd1
    refine ⟨q, vs, rfl, by rw [c.K]; exact hq, g1, S1, σd, rs1, rst1, OutG.mono (OutG.bind rst1 o1) fun ws H2 ⟨g2, S2, d2, le2, rs2, rst2, rd2, o2⟩ => ?_⟩
    exact o2 g2 H2 _ Le.rfl' rs2 ((r.mono le2.to0).append rd2)
  · exact o1.elim
/-! displays -/
theorem pe_tupZ {x1} (h : PA X args (EVs W E T Φ es)) : PE X (.Tuple args x1 pos) (EV W E T Φ (.tup es)) := by
  refine ⟨fun pins s σ H Q I ⟨g, S, σd, rs, rst, o⟩ => ?_⟩
  simp only [ev] at o
  refine wpAny_Tuple_spliced (thn (h.run pos pins s σ H _ I ⟨g, S, σd, rs, rst, OutG.bind rst o⟩) fun us s1 ⟨vs, H1, I1, r, g1, S1, d1, le1, rs1, rst1, rd1, o1⟩ => ?_)
  dsimp only at o1
  split at o1
  · rename_i hl
    have hz : vs.length ≤ sizeLine := by rw [← lim_eq, ← rd1.length]; exact hl
    exact ⟨by rw [← r.length]; exact hz, tup_fin (t := s1.toks) I1 r hz rs1 rd1 o1⟩
  · exact o1.elim
theorem pe_lstZ {mu : Bool} (h : PA X args (EVs W E T Φ es)) : PE X (.List args pos) (EV W E T Φ (.lst mu es)) := by
  refine PE.mono (pe_lst h) fun σ H Q ⟨g, S, σd, rs, rst, o⟩ => ?_
  simp only [ev] at o
  refine ⟨g, S, σd, rs, rst, OutG.mono (OutG.bind rst o) fun vs H1 ⟨g1, S1, d1, le1, rs1, rst1, rd1, o1⟩ => ?_⟩
  dsimp only at o1
  split at o1
  · rename_i hl
    refine ⟨by rw [← lim_eq, ← rd1.length]; exact hl, fun q hq => ?_⟩
    split at o1
    · obtain ⟨rs', le⟩ := rs1.alloc (o := .lst d1) (ho := .lst vs) hq ⟨vs, rfl, rd1⟩
      exact o1 _ _ _ le rs' ⟨q, by rw [← rs1.len]; simp, rfl⟩
    · exact new_lst rs1 rd1 o1 q hq
  · exact o1.elim
/-- {} -/
theorem pe_dct0Z {mu : Bool} : PE X (.Dict [] [] pos) (EV W E T Φ (.dct mu .nil .nil)) := by
  refine PE.mono pe_dnewK fun σ H Q ⟨g, S, σd, rs, rst, o⟩ q hq => ?_
  simp only [ev, evs, R.bind_ok] at o
  have kr : KRel W g [] [] [] := ⟨rfl, rfl, rfl⟩
  rw [if_pos (by simp)] at o
  split at o
  · obtain ⟨rs', le⟩ := rs.alloc (o := .dct [] []) (ho := .dK []) hq (kr.ro q)
    exact o _ _ _ le rs' ⟨q, by rw [← rs.len]; simp, rfl⟩
  · obtain ⟨rs', le⟩ := rs.laid (o := .dK []) hq
    exact o _ _ _ le rs' ⟨q, _, _, _, rfl, by exact upd_same, kr.obj q, rfl, rfl⟩
/-! calls -/
theorem evalArgs_sp {M : Model} {A : Around} {E : Value → Shared → Prop} {s : Shared} {f : Value} {env : Env} {Q : Args → Shared → Prop} (hn : noStars args = true) (h : wpAny M A (spliced (backTo pos (starEach args env))) (fun vs s' => Q ⟨vs, []⟩ s') E s) :
    wpAny M A (evalArgs f true (backTo pos (starEach args env)) []) Q E s := by
  cases args with
  | nil =>
    unfold evalArgs
    show wpAny M A (spliced [] >>= _) Q E s
    refine wpAny_bind (wpAny_mono (show wpAny M A (spliced []) _ E s from h) (fun vs s' h' => ?_) fun _ _ x => x)
    refine wpAny_bind (wpAny_pure ?_)
    refine wpAny_holding ?_
    exact wpAny_bind (wpAny_pure (wpAny_bind (wpAny_pure (wpAny_pure h'))))
  | cons a args =>
    obtain ⟨h1, h2⟩ := all_cons hn
    rw [starEach_cons (by simpa using h1)] at h ⊢
    exact Calls.evalArgs_plain h
theorem callW (c : Cs W Φ n E X) {f : Value} {Q : VK} {R : List V → Hp → Prop} (hk : PySem.W.keepIn X.K f = true) (hn : noStars args = true) {first : List Value}
    (ha : wpAny (model X.prog X.w) X.A (spliced (backTo pos (starEach args X.env))) (AP X pins σ R) X.xe s) (I : Inv X pins σ H s)
    (h : ∀ us s2 vs H2, Inv X pins σ H2 s2 → Vals vs us → R vs H2 → wpAny (model X.prog X.w) X.A (call f (first ++ us)) (EP X pins σ Q) X.xe s2) :
    wpAny (model X.prog X.w) X.A (callWith pos f first (backTo pos (starEach args X.env)) []) (EP X pins σ Q) X.xe s := by
  refine PySem.W.callWith_of (P := X.K.In) ?_ (PySem.W.keeps_K hk) (evalArgs_sp hn (thn ha fun us s2 ⟨vs, H2, I2, r, q⟩ => ⟨I2.kIn, h us s2 vs H2 I2 r q⟩))
  rw [noStars_any hn]
  rfl
theorem pe_callZ (c : Cs W Φ n E X) {f : Nat} {x : Str} (hg : Gl X x) (hm : X.mg x = some (.ref (W.fnA f))) (hk : PySem.W.keepIn X.K (.ref (W.fnA f)) = true) (hdb : (x == ("__debug__" : Str)) = false)
    (ha : PA X args (EVs W E T Φ es)) (hn : noStars args = true) : PE X (.Call (.Name x p) args [] pos) (EV W E T Φ (.call f es)) := by
  refine ⟨fun pins s σ H Q I ⟨g, S, σd, rs, rst, o⟩ => ?_⟩
  simp only [ev] at o
  refine wpAny_Call_Name_kw (ld_glob I hg hm ?_ hdb)
  refine callW c hk hn (first := []) (ha.run pos pins s σ H _ I ⟨g, S, σd, rs, rst, OutG.bind rst o⟩) I fun us s2 vs H2 I2 r ⟨g1, S1, ds, le1, rs1, rst1, rd1, o1⟩ => ?_
  exact c.call X.A pins s2 σ H2 f us vs ds g1 S1 Q c.room0 c.gd rfl I2 r rs1 rd1 o1
end
end Z
end

section
set_option Elab.async false
set_option linter.all false
set_option maxRecDepth 100000
set_option maxHeartbeats 4000000
/-! Z, part 13: classes that are called, built-ins by name, methods, attributes, subscripts. -/
namespace Z
open PySem PySem.W PySem.Spec PyProof.Rows L2 PySem.SeqAt
section
variable {W : Wd} {Φ : Fn} {n : Nat} {E : WX} {X : Cx} {T : Tab} {g : Gh} {S : List O} {H : Hp} {pins : List (Addr × Obj)} {σ : L2.St} {s : Shared}
variable {a b d e : Expr} {args : List Expr} {la lb lc l : LE} {es : LEs} {pos p p2 apos : Pos}
theorem make_frames {A : Around} {C : Addr} {us : List Value} {kw : List (Str × Value)} : (A.under (.builtin "type.__call__" ⟨.ref C :: us, kw⟩)).frames = A.frames := by
  first | rfl | simp [Around.under, Code.envs, Code.isFrame, pushEnvs]
theorem make_guards {A : Around} {C : Addr} {us : List Value} {kw : List (Str × Value)} : (A.under (.builtin "type.__call__" ⟨.ref C :: us, kw⟩)).guards = A.guards := by
  first | rfl | simp [Around.under, Code.guards, Code.isGuard, guardIds, pushGuards]
/-- what fin tells, at a state -/
theorem fin_out {Ex : XK} {Q : VK} {g' : Gh} {S' : List O} {H' : Hp} {H0 : Hp} {dd : D} {v : V} (rs : RS W g S H0) (o : Out W Ex g (fin S dd S') Q) (le : Le g g') (rs' : RS W g' S' H') (rd : RD W g' dd v) : Q v H' := by
  unfold fin at o
  split at o
  · rename_i hk
    obtain ⟨g2, le2, rs2, rd2⟩ := fin_ok rs rs' le rd hk.1 hk.2.1 hk.2.2
    exact o g2 H' v le2 rs2 rd2
  · exact o.elim
def Nx1 {α β γ δ : Type} (W : Wd) (rel : Gh → α → β → Prop) (rel2 : Gh → γ → δ → Prop) (E : XK) (gg g : Gh) (f : α → List O → R γ) (Q : δ → Hp → Prop) : β → Hp → Prop :=
  fun x H1 => ∃ g1 S1 d, Le gg g1 ∧ RS W g1 S1 H1 ∧ rel g1 d x ∧ OutG W rel2 E g (f d S1) Q
theorem OutG.bind1 {α β γ δ : Type} {rel : Gh → α → β → Prop} {rel2 : Gh → γ → δ → Prop} {E : XK} {gg g : Gh} {r : R α} {f : α → List O → R γ} {Q : δ → Hp → Prop} (l : Le g gg) (h : OutG W rel2 E g (r.bind f) Q) :
    OutG W rel E gg r (Nx1 W rel rel2 E gg g f Q) := by
  cases r with
  | ok d S => exact fun g' H' v l' rs rd => ⟨g', S, d, l', rs, rd, h⟩
  | err e S => exact ErrP.le l h
  | bad => exact h
theorem new_run (c : Cs W Φ n E X) (wf : Wf W T) {k : Nat} {ds : List D} {vs : List V} {us : List Value} {Q : VK} (I : Inv X pins σ H s) (rv : Vals vs us) (rs : RS W g S H) (rd : RDs W g ds vs) (o : Out W (fun c d H => E c d σ H) g (newD T Φ k ds S) Q) :
    wpAny (model X.prog X.w) X.A (call (.ref (W.clA k)) us) (EP X pins σ Q) X.xe s := by
  unfold newD at o
  split at o
  · rename_i C hC
    split at o
    · rename_i f hf
      have M := wf.mkc k C f hC hf
      rw [← c.K] at M
      have I2 := Inv.made (C := W.clA k) I
      have hd : H s.heap.objs.size = none := I.hok.fresh (Nat.le_refl _)
      have hx : upd H s.heap.objs.size (.own (s.heap.objs.size + 1)) (s.heap.objs.size + 1) = none := by
        rw [upd_ne (Nat.succ_ne_self _)]
        exact I.hok.fresh (Nat.le_succ _)
      obtain ⟨rs1, le1⟩ := rs.laid (o := .own (s.heap.objs.size + 1)) hd
      obtain ⟨rs2, le2⟩ := rs1.alloc (o := .ins k [] []) (ho := .ins (W.clA k) s.heap.objs.size []) hx ⟨_, [], rfl, rfl, rfl⟩
      have hρ : (⟨upd g.hs s.heap.objs.size (.own (s.heap.objs.size + 1)), g.ρ ++ [s.heap.objs.size + 1], g.pn⟩ : Gh).ρ[S.length]? = some (s.heap.objs.size + 1) := by
        show (g.ρ ++ [s.heap.objs.size + 1])[S.length]? = some _
        rw [← rs.len]
        simp
      have rdx : RDs W ⟨upd g.hs s.heap.objs.size (.own (s.heap.objs.size + 1)), g.ρ ++ [s.heap.objs.size + 1], g.pn⟩ (.ref S.length :: ds) (.ref (s.heap.objs.size + 1) :: vs) := ⟨_, _, rfl, ⟨_, hρ, rfl⟩, (rd.mono le1.to0).mono le2.to0⟩
      refine wpAny_call (make_map (f := W.fnA f) I.kIn M.makes M.init (beq_iff_eq.mp M.fn) (codeAny_mono (c.code _ pins _ σ _ f (.ref (s.heap.objs.size + 1) :: us) (.ref (s.heap.objs.size + 1) :: vs) (.ref S.length :: ds) _ _ _
        (c.room.make (W.clA k) us []) (make_guards.trans c.gd) make_frames I2 (.cons rfl rv) rs2 rdx (OutG.bind1 (rel := RD W) (le1.trans le2) o)) fun r s' hq => ?_))
      cases r with
      | error er => exact hq
      | ok fl =>
        cases fl with
        | ret u =>
          obtain ⟨v, H', I3, ru, g1, S1, d1, le3, rs3, rd3, o3⟩ := hq
          cases d1 with
          | non =>
            cases rd3
            cases (show u = Value.none from ru)
            refine ⟨rfl, .ref (s.heap.objs.size + 1), H', I3, rfl, ?_⟩
            dsimp only at o3
            have rr : RD W g1 (.ref S.length) (.ref (s.heap.objs.size + 1)) := ⟨_, le3.ρ _ _ hρ, rfl⟩
            split at o3
            · exact fin_out rs o3 ((le1.trans le2).trans le3) rs3 rr
            · exact o3 g1 H' _ ((le1.trans le2).trans le3) rs3 rr
          | _ => exact o3.elim
        | next => exact False.elim hq
        | brk => exact False.elim hq
        | cont => exact False.elim hq
    · split at o
      · rename_i hk
        split at o
        · rename_i d
          obtain ⟨v, rfl, r⟩ := rd.one
          obtain ⟨u, rfl, ru⟩ := vals1 rv
          have EC := wf.err k hk.2
          obtain ⟨fI, D, hF, T1, iC, tI⟩ := EC.ex
          have hm := EC.sup
          rw [← c.p, ← c.K] at hF
          rw [← c.K] at T1 iC tI
          rw [← c.mg] at hm
          obtain ⟨F, hb⟩ := hF
          have rm : Room (0 + 1 + 1) X.A := c.room.mono (by omega)
          refine exc_made F hm T1 iC tI hb rm (xe := fun _ _ _ => False) (passes_call c.tk fun _ _ _ _ z => z.elim) I ru fun a dx ha hdx hne => ?_
          obtain ⟨rs1, le1⟩ := rs.laid (o := .xd [("value", v)]) hdx
          obtain ⟨rs2, le2⟩ := rs1.laid (p := a) (o := exV a (W.clA k) dx) (by rw [upd_ne hne]; exact ha)
          exact o _ _ _ (le1.trans le2) rs2 ⟨a, dx, v, rfl, upd_same, by
            show upd (upd g.hs dx (.xd [("value", v)])) a (exV a (W.clA k) dx) dx = _
            rw [upd_ne (Ne.symm hne), upd_same], (r.mono le1.to0).mono le2.to0⟩
        · exact o.elim
      · exact o.elim
  · exact o.elim
theorem pe_newZ (c : Cs W Φ n E X) (wf : Wf W T) {k : Nat} {x : Str} (hg : Gl X x) (hm : X.mg x = some (.ref (W.clA k))) (hk : PySem.W.keepIn X.K (.ref (W.clA k)) = true) (hdb : (x == ("__debug__" : Str)) = false)
    (ha : PA X args (EVs W E T Φ es)) (hn : noStars args = true) : PE X (.Call (.Name x p) args [] pos) (EV W E T Φ (.new k es)) := by
  refine ⟨fun pins s σ H Q I ⟨g, S, σd, rs, rst, o⟩ => ?_⟩
  simp only [ev] at o
  refine wpAny_Call_Name_kw (ld_glob I hg hm ?_ hdb)
  refine callW c hk hn (first := []) (ha.run pos pins s σ H _ I ⟨g, S, σd, rs, rst, OutG.bind rst o⟩) I fun us s2 vs H2 I2 r ⟨g1, S1, ds, le1, rs1, rst1, rd1, o1⟩ => ?_
  exact new_run c wf I2 r rs1 rd1 o1
/-- a built-in's name -/
def biN : Bi → Str
  | .len => "len" | .all => "all" | .any => "any" | .abs => "abs" | .min => "min" | .max => "max" | .sorted => "sorted" | .repr => "repr" | .int => "int" | .tuple => "tuple" | .list => "list" | .listM => "list"
  | .dict => "dict" | .dictM => "dict" | .isinstance => "isinstance" | .bool => "bool" | .str => "str" | .sum => "sum" | .set => "set" | .valueError => "ValueError"
theorem bi_boot (f : Bi) : bootBuiltins (biN f) = some (biV f) := by cases f <;> decide +kernel
theorem bi_name (f : Bi) : biN f ≠ "__name__" := by cases f <;> decide
theorem bi_dbg (f : Bi) : (biN f == ("__debug__" : Str)) = false := by cases f <;> decide
theorem callB (c : Cs W Φ n E X) {f : Bi} {Q : Value → Shared → Prop} {Ee : Value → Shared → Prop} (hn : noStars args = true) (h : wpAny (model X.prog X.w) X.A (spliced (backTo pos (starEach args X.env))) (fun vs s₁ => wpAny (model X.prog X.w) X.A (call (biV f) vs) Q Ee s₁) Ee s) :
    wpAny (model X.prog X.w) X.A (callWith pos (biV f) [] (backTo pos (starEach args X.env)) []) Q Ee s := by
  have key : ∀ id, biV f = .builtin id → wpAny (model X.prog X.w) X.A (callWith pos (biV f) [] (backTo pos (starEach args X.env)) []) Q Ee s := fun id e => by
    rw [e] at h ⊢
    exact Calls.callWith_builtin (noStars_any hn) (evalArgs_sp hn h)
  have key2 : ∀ T, biV f = .type T → wpAny (model X.prog X.w) X.A (callWith pos (biV f) [] (backTo pos (starEach args X.env)) []) Q Ee s := fun T e => by
    rw [e] at h ⊢
    exact PySem.callWith_type (noStars_any hn) (evalArgs_sp hn h)
  cases f <;> first
    | exact key _ rfl
    | exact key2 _ rfl
theorem pe_biZ (c : Cs W Φ n E X) (wf : Wf W T) {f : Bi} (hg : Gl X (biN f)) (hm : X.mg (biN f) = none) (ha : PA X args (EVs W E T Φ es)) (hn : noStars args = true) : PE X (.Call (.Name (biN f) p) args [] pos) (EV W E T Φ (.bi f es)) := by
  refine ⟨fun pins s σ H Q I ⟨g, S, σd, rs, rst, o⟩ => ?_⟩
  simp only [ev] at o
  refine wpAny_Call_Name_kw (ld_blt I hg hm (bi_boot f) ?_ (bi_name f) (bi_dbg f))
  refine callB c hn (thn (ha.run pos pins s σ H _ I ⟨g, S, σd, rs, rst, OutG.bind rst o⟩) fun us s2 ⟨vs, H2, I2, r, g1, S1, ds, le1, rs1, rst1, rd1, o1⟩ => ?_)
  exact op_bi c wf pins s2 σ H2 vs us Q I2 r ⟨g1, S1, ds, rs1, rd1, o1⟩
/-! subscripts -/
theorem pe_idxZ (c : Cs W Φ n E X) (wf : Wf W T) (ha : PE X a (EV W E T Φ la)) (hb : PE X b (EV W E T Φ lb)) (h0 : ∀ v u, subscripted b false v u = operate [v, u] (getItem v u)) (h1 : ∀ v u, subscripted b true v u = runValue (.builtin "lifetime.subscript" ⟨[v, u], []⟩)) :
    PE X (.Subscript a b pos) (EV W E T Φ (.idx la lb)) := by
  refine ⟨fun pins s σ H Q I ⟨g, S, σd, rs, rst, o⟩ => ?_⟩
  simp only [ev] at o
  refine Subscript_ (thn (ha.run pins s σ H _ I ⟨g, S, σd, rs, rst, OutG.bind rst o⟩) fun v s1 ⟨x, H1, I1, r1, g1, S1, d1, le1, rs1, rst1, rd1, o1⟩ => ?_)
  refine thn (hb.run pins s1 σ H1 _ I1 ⟨g1, S1, σd, rs1, rst1, OutG.bind rst1 o1⟩) fun u s2 ⟨y, H2, I2, r2, g2, S2, d2, le2, rs2, rst2, rd2, o2⟩ => ?_
  exact ix_D c wf a b pins s2 σ H2 x y v u Q I2 r1 r2 ⟨g2, S2, d1, d2, rs2, rd1.mono le2, rd2, o2⟩ (h0 v u) (h1 v u)
abbrev tEvO (W : Wd) (E : WX) (f : St → List O → R (Option Int)) : TO := tEvG W (fun _ (k b : Option Int) => k = b) E f
theorem po_noZ : PO X none (tEvO W E (evO T Φ .no)) := by
  refine ⟨fun pins s σ H Q I ⟨g, S, σd, rs, rst, o⟩ => po_none.run pins s σ H Q I ?_⟩
  simp only [evO] at o
  exact o g H none Le.rfl' rs rfl
theorem po_someZ (ha : PE X a (EV W E T Φ la)) : PO X (some a) (tEvO W E (evO T Φ (.some la))) := by
  refine ⟨fun pins s σ H Q I ⟨g, S, σd, rs, rst, o⟩ => (po_some ha).run pins s σ H Q I ?_⟩
  simp only [evO] at o
  refine ⟨g, S, σd, rs, rst, OutG.mono (OutG.bind rst o) fun v H1 ⟨g1, S1, d1, le1, rs1, rst1, rd1, o1⟩ => ?_⟩
  cases d1 with
  | int i => exact ⟨i, rd1, o1 g1 H1 _ Le.rfl' rs1 rfl⟩
  | _ => exact o1.elim
theorem pe_slcZ (c : Cs W Φ n E X) {lo hi : Option Expr} {llo lhi : LO} (ha : PE X a (EV W E T Φ la)) (h1 : PO X lo (tEvO W E (evO T Φ llo))) (h2 : PO X hi (tEvO W E (evO T Φ lhi))) : PE X (.Subscript a (.Slice lo hi none p2) pos) (EV W E T Φ (.slc la llo lhi none)) := by
  refine ⟨fun pins s σ H Q I ⟨g, S, σd, rs, rst, o⟩ => (pe_slice (sl_D c σ) ha h1 h2).run pins s σ H Q I ?_⟩
  simp only [ev] at o
  refine ⟨g, S, σd, rs, rst, OutG.mono (OutG.bind rst o) fun x H1 ⟨g1, S1, d1, le1, rs1, rst1, rd1, o1⟩ => ?_⟩
  refine ⟨g1, S1, σd, rs1, rst1, OutG.mono (OutG.bind rst1 o1) fun l H2 ⟨g2, S2, d2, le2, rs2, rst2, rd2, o2⟩ => ?_⟩
  refine ⟨g2, S2, σd, rs2, rst2, OutG.mono (OutG.bind rst2 o2) fun h H3 ⟨g3, S3, d3, le3, rs3, rst3, rd3, o3⟩ => ?_⟩
  cases rd2; cases rd3
  exact ⟨g3, S3, d1, rs3, RD.mono le3.to0 (RD.mono le2.to0 rd1), o3⟩
/-! attributes -/
theorem lookup_rd (inj : ∀ i j, W.fld i = W.fld j → i = j) : ∀ {fs : List Nat} {ds : List D} {vs : List V} {f : Nat} {d : D}, RDs W g ds vs → (fs.zip ds).lookup f = some d → ∃ v, ((fs.map W.fld).zip vs).lookup (W.fld f) = some v ∧ RD W g d v
  | [], _, _, _, _, _, h => by cases h
  | _ :: _, [], _, _, _, _, h => by cases h
  | k :: fs, d' :: ds, _, f, d, r, h => by
    obtain ⟨v, t, rfl, h1, h2⟩ := r
    show ∃ w, (((W.fld k), v) :: (fs.map W.fld).zip t).lookup (W.fld f) = some w ∧ _
    by_cases e : f = k
    · subst e
      simp only [List.zip_cons_cons, List.lookup_cons_self] at h ⊢
      cases h
      exact ⟨v, rfl, h1⟩
    · have e2 : (f == k) = false := by simpa using e
      have e3 : (W.fld f == W.fld k) = false := by
        simp only [beq_eq_false_iff_ne, ne_eq]
        exact fun z => e (inj _ _ z)
      have h' : (fs.zip ds).lookup f = some d := by
        simpa [List.lookup, e2] using h
      obtain ⟨w, q1, q2⟩ := lookup_rd inj h2 h'
      exact ⟨w, by simpa [List.lookup, e3] using q1, q2⟩
theorem atr_run (c : Cs W Φ n E X) (wf : Wf W T) {f : Nat} {x : D} {v : V} {u : Value} {Q : VK} {bb : Bool} (I : Inv X pins σ H s) (rv : RelV v u) (rs : RS W g S H) (rd : RD W g x v) (o : Out W (fun c d H => E c d σ H) g (atrD T Φ x f S) Q) :
    wpAny (model X.prog X.w) X.A (getAttr u (W.fld f) bb) (EP X pins σ Q) X.xe s := by
  unfold atrD at o
  split at o
  · rename_i k fs ds e
    obtain ⟨q, dx, vs, rfl, h1, hl, r⟩ := ins_ok rs e rd
    obtain rfl : u = Value.ref q := rv
    split at o
    · rename_i hin
      have ic := wf.icls k hin
      rw [← c.K] at ic
      split at o
      · rename_i gg hp
        obtain ⟨pp, hpp⟩ := wf.prop k f gg hp
        rw [← c.K] at hpp
        obtain ⟨mA, O, _⟩ := ins_get I.hok h1
        obtain ⟨od, J, _⟩ := O.look
        obtain ⟨rest, hrec⟩ := hpp.rec_
        have I1 := I.tok (s.toks + 1)
        have hc : (PySem.W.clsIn X.K (W.clA k)).isSome = true := by
          obtain ⟨cd, hc, _⟩ := PySem.W.any_some ic.cl.hd
          rw [hc]
          rfl
        refine PySem.W.get_bind I.kIn J (PySem.W.plainGet_of (ic.cl.get (W.fld f))).1 (PySem.W.findObj_data hc hpp.at_ hpp.get hpp.tak) (PySem.W.plainGet_of (ic.cl.get (W.fld f))).2 (wpAny_call (PySem.W.prop_get (s := { s with toks := s.toks + 1 }) I.kIn hrec ?_))
        cases hr : Φ gg [x] S with
        | ok d S' =>
          rw [hr] at o
          have e0 := I1.env0.in1
          rw [c.p, c.w, c.K, c.mg, c.base] at e0
          have o' : Out W (fun _ _ _ => False) g (Φ gg [x] S) Q := by
            rw [hr]
            exact o
          have hz := c.fz gg X.A.in1 X.stack { s with toks := s.toks + 1 } H [.ref q] [.ref q] [x] g S Q _ c.room.in1 c.gd e0 (.cons rfl .nil) rs ⟨_, _, rfl, rd, rfl⟩ o'
          rw [← c.p, ← c.w] at hz
          refine codeAny_mono hz fun r s' hq => ?_
          cases r with
          | error er =>
            obtain ⟨_, _, _, _, _, _, _, _, _, _, _, _, z⟩ := hq
            exact z.elim
          | ok fl =>
            cases fl with
            | ret u =>
              obtain ⟨v, H', I3, rv, q3⟩ := I1.after hq
              show wpAny _ _ (handedOut u) _ _ _
              rw [PySem.W.handedOut_of (handed_of rv)]
              exact wpAny_pure ⟨v, H', I3, rv, q3⟩
            | next => exact False.elim hq
            | brk => exact False.elim hq
            | cont => exact False.elim hq
        | err e S' =>
          rw [hr] at o
          exact o.elim
        | bad =>
          rw [hr] at o
          exact o.elim
      · split at o
        · rename_i hfl
          have na := wf.noat k f hfl
          rw [← c.K] at na
          split at o
          · rename_i d ed
            obtain ⟨w, hw, rw'⟩ := lookup_rd wf.inj r ed
            exact getattr_ok I h1 ic.cl na hw fun u' s2 I2 ru => ⟨w, H, I2, ru, o g H _ Le.rfl' rs rw'⟩
          · exact o.elim
        · exact o.elim
    · exact o.elim
  · split at o
    · rename_i cc d _
      split at o
      · rename_i hk
        obtain ⟨a, dx, v', rfl, h1, h2, r⟩ := rd
        obtain rfl : u = Value.ref a := rv
        have EC := wf.err cc hk.1
        have hn : W.fld f = ("value" : Str) := by rw [hk.2]; exact EC.nm
        obtain ⟨fI, D, ⟨F, hb⟩, T1, _, _⟩ := EC.ex
        rw [hn]
        exact exc_field (C := W.clA cc) (by rw [c.K]; exact EC.xf) (by rw [c.K]; exact T1.val) I (rs.sub _ _ h1) (rs.sub _ _ h2) rfl (o g H _ Le.rfl' rs r)
      · exact o.elim
    · exact o.elim
theorem pe_atrZ (c : Cs W Φ n E X) (wf : Wf W T) {f : Nat} (ha : PE X a (EV W E T Φ la)) (hb : attributeBase a (W.fld f) X.env (eval a X.env) = eval a X.env) : PE X (.Attribute a (W.fld f) pos) (EV W E T Φ (.atr la f)) := by
  refine ⟨fun pins s σ H Q I ⟨g, S, σd, rs, rst, o⟩ => ?_⟩
  simp only [ev] at o
  refine attr_of hb (thn (ha.run pins s σ H _ I ⟨g, S, σd, rs, rst, OutG.bind rst o⟩) fun v s1 ⟨x, H1, I1, r1, g1, S1, d1, le1, rs1, rst1, rd1, o1⟩ => ?_)
  exact atr_run c wf I1 r1 rs1 rd1 o1
end
end Z
end

section
set_option Elab.async false
set_option linter.all false
set_option maxRecDepth 100000
set_option maxHeartbeats 4000000
/-! Z, part 14: methods. -/
namespace Z
open PySem PySem.W PySem.Spec PyProof.Rows L2 PySem.SeqAt
section
variable {W : Wd} {Φ : Fn} {n : Nat} {E : WX} {X : Cx} {T : Tab} {g : Gh} {S : List O} {H : Hp} {pins : List (Addr × Obj)} {σ : L2.St} {s : Shared}
variable {a b d e : Expr} {args : List Expr} {la lb lc l : LE} {es : LEs} {pos p p2 apos : Pos}
/-- the receiver's type -/
theorem fit_ty (c : Cs W Φ n E X) (I : Inv X pins σ H s) (rs : RS W g S H) {x : D} {v : V} {u : Value} (rd : RD W g x v) (rv : RelV v u) {b : Bm} (h : bmFit S x b = true) : s.TypeIs u (bmT b) ∧ ∀ a, u = .ref a → ∃ ob, s.heap.get? a = some ob ∧ ob.dict = none := by
  have lst : ∀ {ds : List D}, look S x = .lst ds → s.TypeIs u "list" ∧ ∀ a, u = .ref a → ∃ ob, s.heap.get? a = some ob ∧ ob.dict = none := fun {ds} e => by
    obtain ⟨q, vs, rfl, h1, _⟩ := look_cases rs rd e
    exact tyV_is I rv (.inl ⟨rfl, vs, .of h1⟩)
  have dct : ∀ {ks vs : List D}, look S x = .dct ks vs → (ks.all keyS || ks.all keyT) = true → s.TypeIs u "dict" ∧ ∀ a, u = .ref a → ∃ ob, s.heap.get? a = some ob ∧ ob.dict = none := fun {ks vs} e hall => by
    have ly := look_rd rs rd
    rw [e] at ly
    obtain ⟨q, o, kv, vv, rfl, h1, dob, rk, rv'⟩ := ly
    rcases Bool.or_eq_true_iff.mp hall with hall | hall
    · obtain ⟨kvs, rfl, _⟩ := dobj_S dob rk rv' hall
      exact tyV_is I rv (.inr (.inr (.inl ⟨rfl, .inl ⟨kvs, h1⟩⟩)))
    · obtain ⟨xs, kt⟩ := dobj_T c.K c.p c.w I (fun _ _ h => h) h1 dob rk rv' hall
      obtain rfl : u = Value.ref q := rv
      obtain ⟨ob, es, ep, h2, h3, _⟩ := kt.of
      exact ⟨⟨ob, h2, h3.1⟩, fun a ha => by cases ha; exact ⟨ob, h2, h3.2.1⟩⟩
  cases b with
  | append =>
    cases x <;> simp only [bmFit] at h <;> first | cases h | skip
    split at h
    · rename_i e
      exact lst e
    · cases h
  | extend =>
    cases x <;> simp only [bmFit] at h <;> first | cases h | skip
    split at h
    · rename_i e
      exact lst e
    · cases h
  | pop =>
    cases x <;> simp only [bmFit] at h <;> first | cases h | skip
    split at h
    · rename_i e
      exact lst e
    · cases h
  | split =>
    cases x <;> simp only [bmFit] at h <;> first | cases h | skip
    cases rd
    exact tyV_is (T := "str") I rv rfl
  | join =>
    cases x <;> simp only [bmFit] at h <;> first | cases h | skip
    cases rd
    exact tyV_is (T := "str") I rv rfl
  | setdefault =>
    simp only [bmFit] at h
    split at h
    · rename_i e
      exact dct e h
    · cases h
  | get =>
    simp only [bmFit] at h
    split at h
    · rename_i e
      exact dct e h
    · cases h
  | update =>
    simp only [bmFit] at h
    split at h
    · rename_i e
      exact dct e (by rw [h]; rfl)
    · cases h
  | index =>
    cases x <;> simp only [bmFit] at h <;> first | cases h | skip
    obtain ⟨q, vs, rfl, hq, _⟩ := rd
    cases rv
    rcases hq with ⟨o, h1, h2⟩ | ⟨o, its, m, h1, h2, h3, _⟩
    · obtain ⟨q1, q2⟩ := (show ObjOk X.prog X.w H s.heap q (.frz o (.tup vs)) from I.hok q _ (rs.sub _ _ h1))
      obtain ⟨_, its, _, ob, q3, q4, _⟩ := q2
      rw [q1] at q3
      cases q3
      exact ⟨⟨o, q1, q4⟩, fun a' e => by cases e; exact ⟨o, q1, h2⟩⟩
    · rw [← c.K] at h1
      have q1 := I.kIn q o h1
      exact ⟨⟨o, q1, h2⟩, fun a' e => by cases e; exact ⟨o, q1, h3⟩⟩
  | indexL =>
    cases x <;> simp only [bmFit] at h <;> first | cases h | skip
    exact lst rfl
  | _ => cases h
/-- the tree of a method call, no star in it -/
theorem mcall_of {o : Expr} {m : Str} {Q : Value → Shared → Prop} {Ee : Value → Shared → Prop} {A : Around} (hbase : attributeBase o m X.env (eval o X.env) = eval o X.env) (hn : noStars args = true) (hl : args.length < 30) (hline : (apos.endLine == pos.line) = true)
    (h : ∀ pl, wpAny (model X.prog X.w) A (eval o X.env) (fun ov s₁ => wpAny (model X.prog X.w) A (getMethod ov m pl) (fun fx s₂ => wpAny (model X.prog X.w) A (callWith pos fx.1 fx.2 (backTo pos (starEach args X.env)) []) Q Ee s₂) Ee s₁) Ee s) :
    wpAny (model X.prog X.w) A (eval (.Call (.Attribute o m apos) args [] pos) X.env) Q Ee s := by
  rw [arm_eval_Call, hbase]
  have hform : methodCallForm (args.length + ([] : List Keyword).length) (backTo pos (starEach args X.env)) (backToKw pos (keywordEach [] X.env)) = true := by
    unfold methodCallForm
    rw [noStars_all hn]
    simpa [backToKw, keywordEach] using hl
  have hpos : methodCallPos true o X.env apos pos = pure pos := by unfold methodCallPos; simp [hline]
  refine wpAny_bind (wpAny_mono (h (do return (← importBound o X.env).getD true)) (fun ov s₁ h₁ => ?_) fun _ _ e => e)
  refine wpAny_bind (wpAny_standAt ?_)
  unfold methodCall
  rw [hform]
  refine wpAny_bind (wpAny_holding (wpAny_mono (show wpAny _ _ (calleeOf true o X.env ov m) _ _ _ from h₁) (fun fx s₂ h₂ => ?_) fun _ _ e => e))
  exact wpAny_bind (wpAny_of_eq hpos h₂)
theorem pe_mthZ (c : Cs W Φ n E X) (wf : Wf W T) {b : Option Bm} {m : Option Nat} {nm : Str} (hb : ∀ bb, b = some bb → bmN bb = nm ∧ bb ≠ .items ∧ bb ≠ .upper ∧ bb ≠ .replace) (hm : ∀ mm, m = some mm → W.fld mm = nm)
    (ho : PE X a (EV W E T Φ la)) (ha : PA X args (EVs W E T Φ es)) (hbase : attributeBase a nm X.env (eval a X.env) = eval a X.env) (hn : noStars args = true) (hl : args.length < 30) (hline : (apos.endLine == pos.line) = true) :
    PE X (.Call (.Attribute a nm apos) args [] pos) (EV W E T Φ (.mth la b m es)) := by
  refine ⟨fun pins s σ H Q I ⟨g, S, σd, rs, rst, o⟩ => ?_⟩
  simp only [ev] at o
  refine mcall_of hbase hn hl hline fun pl => thn (ho.run pins s σ H _ I ⟨g, S, σd, rs, rst, OutG.bind rst o⟩) fun v s1 ⟨x, H1, I1, r1, g1, S1, d1, le1, rs1, rst1, rd1, o1⟩ => ?_
  dsimp only at o1
  split at o1
  · rename_i k hk
    have hargs := ha.run pos pins s1 σ H1 _ I1 ⟨g1, S1, σd, rs1, rst1, OutG.bind rst1 o1⟩
    unfold mtyp at hk
    split at hk
    · rename_i cc fs vs hi
      cases m with
      | some mm =>
        dsimp only at hk
        split at hk
        · rename_i f hf
          split at hk
          · cases hk
          · rename_i hnc
            cases hk
            obtain ⟨q, dx, ws, rfl, h1, hlen, r⟩ := ins_ok rs1 hi rd1
            obtain rfl : v = Value.ref q := r1
            obtain ⟨hc, hme, hfn⟩ := c.meth wf hf
            have en := hm mm rfl
            rw [en] at hme
            have hnone : ((fs.map W.fld).zip ws).lookup nm = none := by
              refine List.lookup_eq_none_iff.mpr fun p hp => ?_
              have := (List.of_mem_zip (a := p.1) (b := p.2) hp).1
              obtain ⟨i, hi', e⟩ := List.mem_map.mp this
              rw [← e, ← en]
              simp only [bne_iff_ne, ne_eq, beq_eq_false_iff_ne]
              intro z
              have := wf.inj _ _ z
              subst this
              exact hnc (List.contains_iff_mem.mpr hi')
            refine getmeth_ok I1 h1 hc hme hnone ?_
            refine callW c hme.kp hn (first := [.ref q]) hargs I1 fun us s2 vs2 H2 I2 r2 ⟨g2, S2, d2, le2, rs2, rst2, rd2, o2⟩ => ?_
            exact c.call X.A pins s2 σ H2 f (.ref q :: us) (.ref q :: vs2) (d1 :: d2) g2 S2 Q c.room0 c.gd rfl I2 (.cons rfl r2) rs2 ⟨_, _, rfl, rd1.mono le2.to0, rd2⟩ o2
        · cases hk
      | none => cases hk
    · cases b with
      | some bb =>
        dsimp only at hk
        split at hk
        · rename_i hfit
          cases hk
          have hb' : bmN (bmOf bb d1) = nm ∧ bmOf bb d1 ≠ .items ∧ bmOf bb d1 ≠ .upper ∧ bmOf bb d1 ≠ .replace := by
            unfold bmOf
            split
            · obtain ⟨en, _⟩ := hb _ rfl
              exact ⟨en, by decide, by decide, by decide⟩
            · exact hb _ rfl
          obtain ⟨en, hne⟩ := hb'
          have ok := bm_ok hne
          obtain ⟨t1, t2⟩ := fit_ty c I1 rs1 rd1 r1 hfit
          refine getMethod_builtin t1 ok.pa (by rw [← en]; exact ok.slot) ok.ty t2 ?_
          refine Calls.callWith_builtin (noStars_any hn) (evalArgs_sp hn (thn hargs fun us s2 ⟨vs2, H2, I2, r2, g2, S2, d2, le2, rs2, rst2, rd2, o2⟩ => ?_))
          exact bm_run c I2 r1 r2 rs2 (rd1.mono le2.to0) rd2 o2
        · cases hk
      | none => cases hk
  · exact o1.elim
end
end Z
end

section
set_option Elab.async false
set_option linter.all false
set_option maxRecDepth 100000
set_option maxHeartbeats 4000000
/-! Z, part 15: tests; a if t else b. -/
namespace Z
open PySem PySem.W PySem.Spec PyProof.Rows L2 PySem.SeqAt
section
variable {W : Wd} {Φ : Fn} {n : Nat} {E : WX} {X : Cx} {T : Tab} {g : Gh} {S : List O} {H : Hp} {pins : List (Addr × Obj)} {σ : L2.St} {s : Shared}
variable {a b d e : Expr} {rest : List Expr} {la lb lc l : LE} {pos : Pos}
theorem tst_and (σd : St) (S : List O) : tst T Φ (.and la lb) σd S = (tst T Φ la σd S).bind fun k S => if k then tst T Φ lb σd S else .ok false S := by
  unfold tst
  simp only [ev]
  cases ev T Φ la σd S with
  | ok x S1 =>
    simp only [R.bind_ok]
    cases ht : truth S1 x with
    | none => rfl
    | some k =>
      cases k with
      | true => rfl
      | false => simp only [R.bind_ok, ht]; rfl
  | err e S => rfl
  | bad => rfl
theorem tst_or (σd : St) (S : List O) : tst T Φ (.or la lb) σd S = (tst T Φ la σd S).bind fun k S => if k then .ok true S else tst T Φ lb σd S := by
  unfold tst
  simp only [ev]
  cases ev T Φ la σd S with
  | ok x S1 =>
    simp only [R.bind_ok]
    cases ht : truth S1 x with
    | none => rfl
    | some k =>
      cases k with
      | true => simp only [R.bind_ok, ht]; rfl
      | false => rfl
  | err e S => rfl
  | bad => rfl
theorem PW.mono {X : Cx} {e : Expr} {t t' : TT} (h : PW X e t) (k : ∀ σ H Q, t' σ H Q → t σ H Q) : PW X e t' := ⟨fun w pins s σ H Q I q => h.run w pins s σ H Q I (k σ H Q q)⟩
theorem pw_andZ (ha : PT X a (EVb W E T Φ la)) (hb : PW X (.BoolOp .And (b :: rest) pos) (EVb W E T Φ lb)) : PW X (.BoolOp .And (a :: b :: rest) pos) (EVb W E T Φ (.and la lb)) := by
  refine PW.mono (pw_and ha hb) fun σ H Q ⟨g, S, σd, rs, rst, o⟩ => ?_
  rw [tst_and] at o
  refine ⟨g, S, σd, rs, rst, OutG.mono (OutG.bind rst o) fun k H1 ⟨g1, S1, d1, le1, rs1, rst1, rd1, o1⟩ => ?_⟩
  subst rd1
  cases d1 with
  | true => exact ⟨g1, S1, σd, rs1, rst1, o1⟩
  | false => exact o1 g1 H1 _ Le.rfl' rs1 rfl
theorem pw_orZ (ha : PT X a (EVb W E T Φ la)) (hb : PW X (.BoolOp .Or (b :: rest) pos) (EVb W E T Φ lb)) : PW X (.BoolOp .Or (a :: b :: rest) pos) (EVb W E T Φ (.or la lb)) := by
  refine PW.mono (pw_or ha hb) fun σ H Q ⟨g, S, σd, rs, rst, o⟩ => ?_
  rw [tst_or] at o
  refine ⟨g, S, σd, rs, rst, OutG.mono (OutG.bind rst o) fun k H1 ⟨g1, S1, d1, le1, rs1, rst1, rd1, o1⟩ => ?_⟩
  subst rd1
  cases d1 with
  | true => exact o1 g1 H1 _ Le.rfl' rs1 rfl
  | false => exact ⟨g1, S1, σd, rs1, rst1, o1⟩
theorem pe_iteZ {c : Expr} (hc : PT X c (EVb W E T Φ lc)) (ha : PE X a (EV W E T Φ la)) (hb : PE X b (EV W E T Φ lb)) : PE X (.IfExp c a b pos) (EV W E T Φ (.ite lc la lb)) := by
  refine PE.mono (pe_ifExp hc ha hb) fun σ H Q ⟨g, S, σd, rs, rst, o⟩ => ?_
  have e : ev T Φ (.ite lc la lb) σd S = (tst T Φ lc σd S).bind fun k S => if k then ev T Φ la σd S else ev T Φ lb σd S := by
    unfold tst
    simp only [ev]
    cases ev T Φ lc σd S with
    | ok x S1 =>
      simp only [R.bind_ok]
      cases ht : truth S1 x with
      | none => rfl
      | some k => cases k <;> rfl
    | err e S => rfl
    | bad => rfl
  rw [e] at o
  refine ⟨g, S, σd, rs, rst, OutG.mono (OutG.bind rst o) fun k H1 ⟨g1, S1, d1, le1, rs1, rst1, rd1, o1⟩ => ?_⟩
  subst rd1
  cases d1 with
  | true => exact ⟨g1, S1, σd, rs1, rst1, o1⟩
  | false => exact ⟨g1, S1, σd, rs1, rst1, o1⟩
end
end Z
end

section
set_option Elab.async false
set_option linter.all false
set_option maxRecDepth 100000
set_option maxHeartbeats 4000000
/-! Z, part 16: what is walked. -/
namespace Z
open PySem PySem.W PySem.Spec PyProof.Rows L2 PySem.SeqAt
/-- an item that comes: as a value, or a pair just laid -/
def RI (W : Wd) (g : Gh) (d : D) (x : V) : Prop := RD W g d x ∨ ∃ ds a vs, d = .tup ds ∧ x = .ref a ∧ SqT W.K g.hs a vs ∧ RDs W g ds vs
/-- the item's relation that a target wants -/
def relT (W : Wd) : LT → Gh → D → V → Prop
  | .nm _ => RD W
  | .tp _ => RI W
theorem relT_of {W : Wd} {t : LT} {g : Gh} {d : D} {x : V} (h : RD W g d x) : relT W t g d x := by
  cases t with
  | nm i => exact h
  | tp ts => exact .inl h
/-- the iterator J walks ds, while the places ns stay as in S0 -/
structure Iters (W : Wd) (t : LT) (g0 : Gh) (S0 : List O) (J : It) (ds : List D) (ns : List Nat) : Prop where
  go : ∀ g S H i, Le g0 g → RS W g S H → Keeps S0 ns S → i < ds.length → J.go i H
  yld : ∀ g S H i x H' d, Le g0 g → RS W g S H → Keeps S0 ns S → ds[i]? = some d → J.yld i H x H' → ∃ g', Le g g' ∧ RS W g' S H' ∧ relT W t g' d x
  stop : ∀ g S H, Le g0 g → RS W g S H → Keeps S0 ns S → J.stop ds.length H
def OutI (W : Wd) (t : LT) (E : XK) (g : Gh) (r : R (List D × List Nat)) (Q : It → Hp → Prop) : Prop := match r with
  | .ok (ds, ns) S => ∀ g' H' J, Le g g' → RS W g' S H' → Iters W t g' S J ds ns → Q J H'
  | .err e S => ErrP W E g e S
  | .bad => False
def tEvI (W : Wd) (t : LT) (E : WX) (f : St → List O → R (List D × List Nat)) : TI := fun σ H Q => ∃ g S σd, RS W g S H ∧ RSt W g σd σ ∧ OutI W t (fun c d H => E c d σ H) g (f σd S) Q
section
variable {W : Wd} {Φ : Fn} {n : Nat} {E : WX} {X : Cx} {T : Tab} {g : Gh} {S : List O} {H : Hp} {pins : List (Addr × Obj)} {σ : L2.St} {s : Shared}
variable {t : LT} {a b d e tg : Expr} {args : List Expr} {la lb lc l : LE} {es : LEs} {pos p p2 apos : Pos}
def NxI {γ δ : Type} (W : Wd) (t : LT) (rel2 : Gh → γ → δ → Prop) (E : XK) (σ : L2.St) (g : Gh) (σd : St) (f : (List D × List Nat) → List O → R γ) (Q : δ → Hp → Prop) : It → Hp → Prop :=
  fun J H1 => ∃ g1 S1 ds ns, Le g g1 ∧ RS W g1 S1 H1 ∧ RSt W g1 σd σ ∧ Iters W t g1 S1 J ds ns ∧ OutG W rel2 E g1 (f (ds, ns) S1) Q
theorem OutI.bind {γ δ : Type} {rel2 : Gh → γ → δ → Prop} {E : XK} {r : R (List D × List Nat)} {f : (List D × List Nat) → List O → R γ} {Q : δ → Hp → Prop} {σd : St} (rst : RSt W g σd σ) (h : OutG W rel2 E g (r.bind f) Q) : OutI W t E g r (NxI W t rel2 E σ g σd f Q) := by
  cases r with
  | ok d S => exact fun g' H' J l rs it => ⟨g', S, d.1, d.2, l, rs, rst.mono l.to0, it, OutG.le l h⟩
  | err e S => exact h
  | bad => exact h
/-- a list that is walked -/
theorem it_lst {g0 : Gh} {S0 : List O} {q : Addr} {ds : List D} {ns : List Nat} (h : ∀ g S H, Le g0 g → RS W g S H → Keeps S0 ns S → ∃ vs, SqL W.K H q vs ∧ RDs W g ds vs) : Iters W t g0 S0 (Itl W.K q) ds ns where
  go := fun g S H i l rs k hi => by
    obtain ⟨vs, h1, h2⟩ := h g S H l rs k
    have := h2.length
    exact ⟨vs, vs[i]'(by omega), h1, by simp⟩
  yld := fun g S H i x H' d l rs k hd hy => by
    obtain ⟨vs, h1, h2⟩ := h g S H l rs k
    obtain ⟨rfl, hx⟩ := hy
    obtain ⟨v, e, r⟩ := h2.get hd
    have := hx vs h1
    rw [e] at this
    cases this
    exact ⟨g, Le.rfl', rs, relT_of r⟩
  stop := fun g S H l rs k => by
    obtain ⟨vs, h1, h2⟩ := h g S H l rs k
    exact ⟨vs, h1, by rw [h2.length]; exact Nat.le_refl _⟩
theorem it_tup {g0 : Gh} {S0 : List O} {q : Addr} {ds : List D} {ns : List Nat} (h : ∀ g S H, Le g0 g → RS W g S H → Keeps S0 ns S → ∃ vs, SqT W.K H q vs ∧ RDs W g ds vs) : Iters W t g0 S0 (Itt W.K q) ds ns where
  go := fun g S H i l rs k hi => by
    obtain ⟨vs, h1, h2⟩ := h g S H l rs k
    have := h2.length
    exact ⟨vs, vs[i]'(by omega), h1, by simp⟩
  yld := fun g S H i x H' d l rs k hd hy => by
    obtain ⟨vs, h1, h2⟩ := h g S H l rs k
    obtain ⟨rfl, hx⟩ := hy
    obtain ⟨v, e, r⟩ := h2.get hd
    have := hx vs h1
    rw [e] at this
    cases this
    exact ⟨g, Le.rfl', rs, relT_of r⟩
  stop := fun g S H l rs k => by
    obtain ⟨vs, h1, h2⟩ := h g S H l rs k
    exact ⟨vs, h1, by rw [h2.length]; exact Nat.le_refl _⟩
theorem it_rng {g0 : Gh} {S0 : List O} {lo hi : Int} {ns : List Nat} : Iters W t g0 S0 (Itr lo (hi - lo).toNat) (rng lo hi) ns where
  go := fun g S H i l rs k h => by
    have e : (rng lo hi).length = (hi - lo).toNat := by simp [rng]
    rw [e] at h
    exact h
  yld := fun g S H i x H' d l rs k hd hy => by
    obtain ⟨rfl, rfl⟩ := hy
    unfold rng at hd
    rw [List.getElem?_map] at hd
    obtain ⟨j, hj, rfl⟩ := Option.map_eq_some_iff.mp hd
    have : j = i := by
      obtain ⟨_, e⟩ := List.getElem?_eq_some_iff.mp hj
      simpa using e.symm
    subst this
    exact ⟨g, Le.rfl', rs, relT_of rfl⟩
  stop := fun g S H l rs k => by
    show (hi - lo).toNat ≤ _
    simp [rng]
theorem it_str {g0 : Gh} {S0 : List O} {z : Str} {ns : List Nat} : Iters W t g0 S0 (Its z) (chars z) ns where
  go := fun g S H i l rs k hi => by
    show i < z.cps.size
    simpa [chars] using hi
  yld := fun g S H i x H' d l rs k hd hy => by
    obtain ⟨rfl, c, hc, rfl⟩ := hy
    unfold chars at hd
    rw [List.getElem?_map, Array.getElem?_toList, hc] at hd
    cases hd
    exact ⟨g, Le.rfl', rs, relT_of rfl⟩
  stop := fun g S H l rs k => by
    show z.cps.size ≤ _
    simp [chars]
theorem walk_items {g0 : Gh} {S0 : List O} {x : D} {v : V} {ds : List D} (rd : RD W g0 x v) (e : items? S0 x = some ds) : ∃ q, v = .ref q ∧
    ((∀ g S H, Le g0 g → RS W g S H → Keeps S0 x.refs S → ∃ vs, SqL W.K H q vs ∧ RDs W g ds vs) ∨ ∀ g S H, Le g0 g → RS W g S H → Keeps S0 x.refs S → ∃ vs, SqT W.K H q vs ∧ RDs W g ds vs) := by
  cases x with
  | tup ys =>
    cases e
    obtain ⟨q, vs, rfl, hq, r⟩ := rd
    exact ⟨q, rfl, .inr fun g S H l rs _ => ⟨vs, (sqF_le rs.sub (sqF_le l.hs hq)).T, r.mono l.to0⟩⟩
  | lst ys =>
    cases e
    obtain ⟨q, vs, rfl, hq, r⟩ := rd
    exact ⟨q, rfl, .inl fun g S H l rs _ => ⟨vs, .of (rs.sub _ _ (l.hs _ _ hq)), r.mono l.to0⟩⟩
  | scr ys =>
    cases e
    obtain ⟨q, vs, rfl, hq, r⟩ := rd
    exact ⟨q, rfl, .inl fun g S H l rs _ => ⟨vs, sqL_le rs.sub (sqL_le l.hs hq), r.mono l.to0⟩⟩
  | ref m =>
    obtain ⟨q, hq, rfl⟩ := rd
    refine ⟨q, rfl, .inl fun g S H l rs k => ?_⟩
    have hm : S[m]? = some (.lst ds) := by
      rw [k m (by simp [D.refs])]
      unfold items? at e
      dsimp only at e
      split at e
      · rename_i h
        cases e
        exact h
      · cases e
    obtain ⟨a', vs, z, _, h1, r⟩ := ref_lst rs ⟨q, l.ρ _ _ hq, rfl⟩ hm
    cases z
    exact ⟨vs, .of h1, r⟩
  | _ => cases e
theorem pi_valZ (c : Cs W Φ n E X) (he : PE X a (EV W E T Φ la)) : PI X tg a (tEvI W t E (evI T Φ (.val la))) := by
  refine ⟨fun pins s σ H R I ⟨g, S, σd, rs, rst, o⟩ => ?_⟩
  simp only [evI] at o
  have o' : Out W (fun c d H => E c d σ H) g (ev T Φ la σd S) (fun x H1 => ∃ g1 S1 d, Le g g1 ∧ RS W g1 S1 H1 ∧ RD W g1 d x ∧ ∃ ds, walk? S1 d = some ds ∧ ∀ J, Iters W t g1 S1 J ds d.refs → R J H1) := by
    cases hr : ev T Φ la σd S with
    | ok d S1 =>
      rw [hr] at o
      simp only [Z.R.bind_ok] at o
      intro g' H' v l rs' rd
      split at o
      · rename_i ds hw
        exact ⟨g', S1, d, l, rs', rd, ds, hw, fun J it => o g' H' J l rs' it⟩
      · exact o.elim
    | err e S1 => rw [hr] at o; exact o
    | bad => rw [hr] at o; exact o
  refine thn (he.run pins s σ H _ I ⟨g, S, σd, rs, rst, o'⟩) fun v s1 ⟨x, H1, I1, r1, g1, S1, d, l, rs1, rd, ds, hw, q⟩ => ?_
  have key : items? S1 d = some ds → wpAny (model X.prog X.w) X.A (pyIter v) (PIE X pins σ tg R) X.xe s1 := fun e => by
    obtain ⟨p, rfl, h⟩ := walk_items rd e
    obtain rfl : v = Value.ref p := r1
    rcases h with h | h
    · obtain ⟨vs, hq, _⟩ := h g1 S1 H1 Le.rfl' rs1 (fun _ _ => rfl)
      rw [← c.K] at hq
      obtain ⟨its, rv, pl, hz⟩ := I1.list hq
      have hJ := q (Itl X.K p) (by rw [c.K]; exact it_lst h)
      exact wpAny_pyIter_list pl.isList (pi_one (tk := s1.toks) I1 _ (turn_list p _) ⟨_, Heap.get?_push_size _ rfl, rfl, rfl⟩ hJ)
    · obtain ⟨vs, hq, _⟩ := h g1 S1 H1 Le.rfl' rs1 (fun _ _ => rfl)
      rw [← c.K] at hq
      obtain ⟨its, rv, pl, hz⟩ := I1.tuple hq
      have hJ := q (Itt X.K p) (by rw [c.K]; exact it_tup h)
      exact wpAny_pyIter_tuple (show s1.heap.IsTuple p its.toArray from pl) (pi_one (tk := s1.toks) I1 _ (turn_tuple p _) ⟨_, Heap.get?_push_size _ rfl, rfl, rfl⟩ hJ)
  cases d with
  | str z =>
    cases rd
    cases hw
    obtain ⟨t, rfl⟩ := r1
    have hJ := q (Its z) it_str
    cases ha : z.cps.all (· < 128)
    · exact wpAny_pyIter_wide ha (pi_one (tk := s1.toks) I1 _ (turn_str _ z t "str_iterator" (.inr rfl)) ⟨_, Heap.get?_push_size _ rfl, rfl, rfl⟩ hJ)
    · exact wpAny_pyIter_ascii ha (pi_one (tk := s1.toks) I1 _ (turn_str _ z t "str_ascii_iterator" (.inl rfl)) ⟨_, Heap.get?_push_size _ rfl, rfl, rfl⟩ hJ)
  | _ => exact key hw
theorem evI_args {f : List D → List O → R (List D × List Nat)} {r : R (List D)} {R : It → Hp → Prop} {Ex : XK} (o : OutI W t Ex g (r.bind f) R) :
    OutG W (RDs W) Ex g r (fun vs H1 => ∃ g1 S1 ds, Le g g1 ∧ RS W g1 S1 H1 ∧ RDs W g1 ds vs ∧ OutI W t Ex g1 (f ds S1) R ∧ r = .ok ds S1) := by
  cases r with
  | ok d S1 =>
    simp only [Z.R.bind_ok] at o
    intro g' H' v l rs' rd
    refine ⟨g', S1, d, l, rs', rd, ?_, rfl⟩
    cases hf : f d S1 with
    | ok p S2 => rw [hf] at o; exact fun g2 H2 J l2 => o g2 H2 J (l.trans l2)
    | err e S2 => rw [hf] at o; exact ErrP.le l o
    | bad => rw [hf] at o; exact o
  | err e S1 => exact o
  | bad => exact o
theorem evs_one {σd : St} {S S' : List O} {ds : List D} (h : evs T Φ (.cons la .nil) σd S = .ok ds S') : ∃ x, ds = [x] := by
  simp only [evs] at h
  cases hx : ev T Φ la σd S with
  | ok x S1 =>
    rw [hx] at h
    cases h
    exact ⟨x, rfl⟩
  | err e S1 => rw [hx] at h; cases h
  | bad => rw [hx] at h; cases h
theorem evs_two {σd : St} {S S' : List O} {ds : List D} (h : evs T Φ (.cons la (.cons lb .nil)) σd S = .ok ds S') : ∃ x y, ds = [x, y] := by
  simp only [evs] at h
  cases hx : ev T Φ la σd S with
  | ok x S1 =>
    rw [hx] at h
    simp only [Z.R.bind_ok] at h
    cases hy : ev T Φ lb σd S1 with
    | ok y S2 =>
      rw [hy] at h
      cases h
      exact ⟨x, y, rfl⟩
    | err e S1 => rw [hy] at h; cases h
    | bad => rw [hy] at h; cases h
  | err e S1 => rw [hx] at h; cases h
  | bad => rw [hx] at h; cases h
theorem pi_rng1Z (c : Cs W Φ n E X) (hg : Gl X "range") (hm : X.mg "range" = none) (ha : PA X [a] (EVs W E T Φ (.cons la .nil))) (hs : isStar a = false) : PI X tg (.Call (.Name "range" p) [a] [] pos) (tEvI W t E (evI T Φ (.rng (.cons la .nil)))) := by
  refine ⟨fun pins s σ H R I ⟨g, S, σd, rs, rst, o⟩ => (pi_range1 hg hm ha (starEach_cons hs)).run pins s σ H R I ?_⟩
  unfold evI at o
  refine ⟨g, S, σd, rs, rst, OutG.mono (evI_args o) fun vs H1 ⟨g1, S1, ds, l, rs1, rd, o1, er⟩ => ?_⟩
  obtain ⟨x, rfl⟩ := evs_one er
  obtain ⟨v, rfl, rv⟩ := rd.one
  cases x with
  | int j =>
    cases rv
    rw [show rngD [.int j] = if -(2 ^ 62) ≤ j ∧ j < 2 ^ 62 then some (rng 0 j) else none from rfl] at o1
    by_cases hk : -(2 ^ 62) ≤ j ∧ j < 2 ^ 62
    · rw [if_pos hk] at o1
      refine ⟨_, rfl, hk.1, hk.2, o1 g1 H1 _ Le.rfl' rs1 ?_⟩
      have it := it_rng (W := W) (t := t) (g0 := g1) (S0 := S1) (lo := 0) (hi := j) (ns := [])
      rw [Int.sub_zero] at it
      exact it
    · rw [if_neg hk] at o1
      exact o1.elim
  | _ => exact o1.elim
theorem pi_rng2Z (c : Cs W Φ n E X) (hg : Gl X "range") (hm : X.mg "range" = none) (ha : PA X [a, b] (EVs W E T Φ (.cons la (.cons lb .nil)))) (hs : isStar a = false) (hs2 : isStar b = false) :
    PI X tg (.Call (.Name "range" p) [a, b] [] pos) (tEvI W t E (evI T Φ (.rng (.cons la (.cons lb .nil))))) := by
  refine ⟨fun pins s σ H R I ⟨g, S, σd, rs, rst, o⟩ => (pi_range2 hg hm ha (by rw [starEach_cons hs, starEach_cons hs2]; rfl) (by rw [starEach_cons hs2]; rfl)).run pins s σ H R I ?_⟩
  unfold evI at o
  refine ⟨g, S, σd, rs, rst, OutG.mono (evI_args o) fun vs H1 ⟨g1, S1, ds, l, rs1, rd, o1, er⟩ => ?_⟩
  obtain ⟨x, y, rfl⟩ := evs_two er
  obtain ⟨v, w, rfl, rv, rw'⟩ := rd.two
  cases x with
  | int j =>
    cases y with
    | int k =>
      cases rv; cases rw'
      rw [show rngD [.int j, .int k] = if (-(2 ^ 62) ≤ j ∧ j < 2 ^ 62) ∧ -(2 ^ 62) ≤ k ∧ k < 2 ^ 62 then some (rng j k) else none from rfl] at o1
      by_cases hk : (-(2 ^ 62) ≤ j ∧ j < 2 ^ 62) ∧ -(2 ^ 62) ≤ k ∧ k < 2 ^ 62
      · rw [if_pos hk] at o1
        exact ⟨_, _, rfl, ⟨hk.1.1, hk.1.2, hk.2.1, hk.2.2⟩, o1 g1 H1 _ Le.rfl' rs1 it_rng⟩
      · rw [if_neg hk] at o1
        exact o1.elim
    | _ => exact o1.elim
  | _ => exact o1.elim
theorem it_rngDn {g0 : Gh} {S0 : List O} {hi lo : Int} {ns : List Nat} : Iters W t g0 S0 (Itc hi (-1) (hi - lo).toNat) (rngDn hi lo) ns where
  go := fun g S H i l rs k h => by
    have e : (rngDn hi lo).length = (hi - lo).toNat := by simp [rngDn]
    rw [e] at h
    exact h
  yld := fun g S H i x H' d l rs k hd hy => by
    obtain ⟨rfl, rfl⟩ := hy
    unfold rngDn at hd
    rw [List.getElem?_map] at hd
    obtain ⟨j, hj, rfl⟩ := Option.map_eq_some_iff.mp hd
    have : j = i := by
      obtain ⟨_, e⟩ := List.getElem?_eq_some_iff.mp hj
      simpa using e.symm
    subst this
    exact ⟨g, Le.rfl', rs, relT_of (by show V.int _ = V.int _; congr 1 <;> omega)⟩
  stop := fun g S H l rs k => by
    have e : (rngDn hi lo).length = (hi - lo).toNat := by simp [rngDn]
    rw [e]
    exact Nat.le_refl _
theorem evs_three {σd : St} {S S1 : List O} {ds : List D} {la lb lc : LE} (h : evs T Φ (.cons la (.cons lb (.cons lc .nil))) σd S = .ok ds S1) : ∃ x y z, ds = [x, y, z] := by
  simp only [evs] at h
  cases h1 : ev T Φ la σd S with
  | bad => rw [h1] at h; cases h
  | err e S => rw [h1] at h; cases h
  | ok x S2 =>
    rw [h1] at h
    simp only [R.bind_ok] at h
    cases h2 : ev T Φ lb σd S2 with
    | bad => rw [h2] at h; cases h
    | err e S => rw [h2] at h; cases h
    | ok y S3 =>
      rw [h2] at h
      simp only [R.bind_ok] at h
      cases h3 : ev T Φ lc σd S3 with
      | bad => rw [h3] at h; cases h
      | err e S => rw [h3] at h; cases h
      | ok z S4 =>
        rw [h3] at h
        simp only [R.bind_ok] at h
        cases h
        exact ⟨x, y, z, rfl⟩
theorem RDs.three {W : Wd} {g : Gh} {x y z : D} {vs : List V} (h : RDs W g [x, y, z] vs) : ∃ v w u, vs = [v, w, u] ∧ RD W g x v ∧ RD W g y w ∧ RD W g z u := by
  obtain ⟨v, r, rfl, h1, h2⟩ := h
  obtain ⟨w, u, rfl, h3, h4⟩ := RDs.two h2
  exact ⟨v, w, u, rfl, h1, h3, h4⟩
theorem pi_rng3Z {d : Expr} {lc : LE} (c : Cs W Φ n E X) (hg : Gl X "range") (hm : X.mg "range" = none) (ha : PA X [a, b, d] (EVs W E T Φ (.cons la (.cons lb (.cons lc .nil))))) (hs : isStar a = false) (hs2 : isStar b = false) (hs3 : isStar d = false) :
    PI X tg (.Call (.Name "range" p) [a, b, d] [] pos) (tEvI W t E (evI T Φ (.rng (.cons la (.cons lb (.cons lc .nil)))))) := by
  refine ⟨fun pins s σ H R I ⟨g, S, σd, rs, rst, o⟩ => (pi_range3 hg hm ha (by rw [starEach_cons hs, starEach_cons hs2, starEach_cons hs3]) (by rw [starEach_cons hs2, starEach_cons hs3]; rfl)).run pins s σ H R I ?_⟩
  unfold evI at o
  refine ⟨g, S, σd, rs, rst, OutG.mono (evI_args o) fun vs H1 ⟨g1, S1, ds, l, rs1, rd, o1, er⟩ => ?_⟩
  obtain ⟨x, y, z, rfl⟩ := evs_three er
  obtain ⟨v, w, u, rfl, rv, rw', ru⟩ := rd.three
  cases x with
  | int i =>
    cases y with
    | int j =>
      cases z with
      | int k =>
        cases rv; cases rw'; cases ru
        rw [show rngD [.int i, .int j, .int k] = if k = -1 ∧ (-(2 ^ 62) ≤ i ∧ i < 2 ^ 62) ∧ -(2 ^ 62) ≤ j ∧ j < 2 ^ 62 then some (rngDn i j) else none from rfl] at o1
        by_cases hk : k = -1 ∧ (-(2 ^ 62) ≤ i ∧ i < 2 ^ 62) ∧ -(2 ^ 62) ≤ j ∧ j < 2 ^ 62
        · rw [if_pos hk] at o1
          obtain ⟨rfl, h1, h2⟩ := hk
          exact ⟨i, j, -1, (i - j).toNat, rfl, RgC.neg h1.1 h1.2 h2.1 h2.2, o1 g1 H1 _ Le.rfl' rs1 it_rngDn⟩
        · rw [if_neg hk] at o1
          exact o1.elim
      | _ => exact o1.elim
    | _ => exact o1.elim
  | _ => exact o1.elim
end
end Z
end

section
set_option Elab.async false
set_option linter.all false
set_option maxRecDepth 100000
set_option maxHeartbeats 4000000
/-! Z, part 17: targets. -/
namespace Z
open PySem PySem.W PySem.Spec PyProof.Rows L2 PySem.SeqAt
mutual
def LT.slots : LT → List Nat
  | .nm i => [i]
  | .tp ts => ts.slotss
def LTs.slotss : LTs → List Nat
  | .nil => []
  | .cons t ts => t.slots ++ ts.slotss
end
/-- slots other than these stay -/
def Only (ss : List Nat) (σ σ' : L2.St) : Prop := σ'.length = σ.length ∧ ∀ j, j ∉ ss → σ'[j]? = σ[j]?
theorem Only.rfl' {ss : List Nat} {σ : L2.St} : Only ss σ σ := ⟨rfl, fun _ _ => rfl⟩
def tPut (W : Wd) (t : LT) : TG := fun v σ H Q => ∃ g S σd d σd', RS W g S H ∧ RSt W g σd σ ∧ relT W t g d v ∧ t.put d σd = some σd' ∧ ∀ σ', RSt W g σd' σ' → Only t.slots σ σ' → Q σ' H
def tPuts (W : Wd) (ts : LTs) : TGs := fun vs σ H Q => ∃ g S σd ds σd', RS W g S H ∧ RSt W g σd σ ∧ RDs W g ds vs ∧ ts.puts ds σd = some σd' ∧ ∀ σ', RSt W g σd' σ' → Only ts.slotss σ σ' → Q σ' H
theorem assignEach_cons {e : Expr} {es : List Expr} {env : Env} (h : isStar e = false) : assignEach (e :: es) env = (false, assign e env) :: assignEach es env := by
  cases e <;> first | rfl | cases h
theorem assignEach_len {env : Env} : ∀ {es : List Expr}, noStars es = true → (assignEach es env).length = es.length ∧ (assignEach es env).findIdx? (·.1) = none
  | [], _ => ⟨rfl, rfl⟩
  | e :: es, h => by
    obtain ⟨h1, h2⟩ := all_cons h
    obtain ⟨h3, h4⟩ := assignEach_len (env := env) h2
    rw [assignEach_cons (by simpa using h1)]
    exact ⟨by simp [h3], by simp [List.findIdx?_cons, h4]⟩
theorem rst_set {W : Wd} {g : Gh} {σd : St} {σ : L2.St} (rst : RSt W g σd σ) {i : Nat} {d : D} {v : V} (r : RD W g d v) (hi : i < σ.length) : RSt W g (σd.set i (some d)) (σ.set i (some v)) := fun j d' e => by
  rw [List.getElem?_set] at e ⊢
  by_cases h : i = j
  · subst h
    rw [if_pos rfl] at e ⊢
    split at e
    · cases e
      rw [if_pos hi]
      exact ⟨v, rfl, r⟩
    · cases e
  · rw [if_neg h] at e ⊢
    exact rst j d' e
section
variable {W : Wd} {Φ : Fn} {n : Nat} {E : WX} {X : Cx} {t : LT} {ts : LTs}
theorem pg_nmZ {i : Nat} {x : Str} {pos : Pos} (hN : X.N.Nodup) (hi : X.N[i]? = some x) (hx : Loc X.env.scope x) (hf : X.fn x = true ∨ X.env.scope.names.lookup x = some .local) : PG X (.Name x pos) (tPut W (.nm i)) := by
  refine ⟨fun pins s σ H v u Q I r ⟨g, S, σd, d, σd', rs, rst, rd, hp, q⟩ => (pg_name hN hi hx hf).run pins s σ H v u Q I r ?_⟩
  cases hp
  exact q _ (rst_set rst rd (by rw [I.len]; exact (List.getElem?_eq_some_iff.mp hi).1)) ⟨List.length_set, fun j hj => by rw [List.getElem?_set_ne fun z => hj (by simp [LT.slots, z])]⟩
theorem pgs_nilZ : PGs X [] (tPuts W .nil) := by
  refine ⟨fun pins s σ H vs us Q I r ⟨g, S, σd, ds, σd', rs, rst, rd, hp, q⟩ => pgs_nil.run pins s σ H vs us Q I r ?_⟩
  cases ds with
  | nil =>
    cases hp
    exact ⟨rd, q _ rst .rfl'⟩
  | cons d ds => cases hp
theorem pgs_consZ {e : Expr} {es : List Expr} (h1 : PG X e (tPut W t)) (h2 : PGs X es (tPuts W ts)) (hs : isStar e = false) : PGs X (e :: es) (tPuts W (.cons t ts)) := by
  refine ⟨fun pins s σ H vs us Q I r ⟨g, S, σd, ds, σd', rs, rst, rd, hp, q⟩ => (pgs_cons h1 h2 (by rw [assignEach_cons hs]; rfl)).run pins s σ H vs us Q I r ?_⟩
  cases ds with
  | nil => cases hp
  | cons d ds =>
    obtain ⟨v, vr, rfl, r1, r2⟩ := rd
    have hp' : (match t.put d σd with | some σ' => ts.puts ds σ' | none => none) = some σd' := hp
    cases h : t.put d σd with
    | none => rw [h] at hp'; cases hp'
    | some σ1 =>
      rw [h] at hp'
      exact ⟨v, vr, rfl, g, S, σd, d, σ1, rs, rst, relT_of r1, h, fun σ' rst' on => ⟨g, S, σ1, ds, σd', rs, rst', r2, hp', fun σ2 rst2 on2 => q σ2 rst2 ⟨on2.1.trans on.1, fun j hj => by
        have hj' : j ∉ t.slots ∧ j ∉ ts.slotss := by simpa [LTs.slotss] using hj
        rw [on2.2 j hj'.2, on.2 j hj'.1]⟩⟩⟩
theorem pg_tpZ (hK : X.K = W.K) {es : List Expr} {k : Nat} {pos : Pos} (hc : X.calm = true) (h : PGs X es (tPuts W ts)) (hn : noStars es = true) (hl : ∀ ds σ σ', ts.puts ds σ = some σ' → ds.length = es.length) : PG X (.Tuple es k pos) (tPut W (.tp ts)) := by
  obtain ⟨a1, a2⟩ := assignEach_len (env := X.env) hn
  refine ⟨fun pins s σ H v u Q I r ⟨g, S, σd, d, σd', rs, rst, rd, hp, q⟩ => ?_⟩
  cases d with
  | lst ds =>
    have hp' : ts.puts ds σd = some σd' := hp
    refine (pg_lst hc h a1 a2).run pins s σ H v u Q I r ?_
    have key : ∃ a vs, v = .ref a ∧ g.hs a = some (.lst vs) ∧ RDs W g ds vs := by
      rcases rd with ⟨a, vs, e, hq, r⟩ | ⟨ds', a, vs, e, e2, hq, r⟩
      · exact ⟨a, vs, e, hq, r⟩
      · cases e
    obtain ⟨a, vs, rfl, hq, r2⟩ := key
    exact ⟨a, vs, rfl, .of (rs.sub _ _ hq), by rw [← r2.length]; exact hl _ _ _ hp', g, S, σd, ds, σd', rs, rst, r2, hp', q⟩
  | tup ds =>
    refine (pg_tup hc h a1 a2).run pins s σ H v u Q I r ?_
    have hp' : ts.puts ds σd = some σd' := hp
    have key : ∃ a vs, v = .ref a ∧ SqT W.K g.hs a vs ∧ RDs W g ds vs := by
      rcases rd with ⟨a, vs, e, hq, r⟩ | ⟨ds', a, vs, e, e2, hq, r⟩
      · exact ⟨a, vs, e, hq.T, r⟩
      · cases e
        exact ⟨a, vs, e2, hq, r⟩
    obtain ⟨a, vs, rfl, hq, r2⟩ := key
    exact ⟨a, vs, rfl, by rw [hK]; exact sqT_le rs.sub hq, by rw [← r2.length]; exact hl _ _ _ hp', g, S, σd, ds, σd', rs, rst, r2, hp', q⟩
  | _ => cases hp
theorem puts_len : ∀ {ts : LTs} {ds : List D} {σ σ' : St}, ts.puts ds σ = some σ' → ∀ m, (∀ {ds σ σ'}, ts.puts ds σ = some σ' → ds.length = m) → ds.length = m := fun h m k => k h
end
end Z
end

section
set_option Elab.async false
set_option linter.all false
set_option maxRecDepth 100000
set_option maxHeartbeats 4000000
/-! Z, part 18: statements. -/
namespace Z
open PySem PySem.W PySem.Spec PyProof.Rows L2 PySem.SeqAt
/-- what a statement's end by the evaluator asks of the ends D -/
def OutF (W : Wd) (E : WX) (D : Ends) (g : Gh) (r : R Fl) : Prop := match r with
  | .ok (.nx σd) S => ∀ g' H' σ', Le g g' → RS W g' S H' → RSt W g' σd σ' → D.nx σ' H'
  | .ok (.rt d) S => ∀ g' H' v, Le g g' → RS W g' S H' → RD W g' d v → D.rt v H'
  | .ok (.bk σd) S => ∀ g' H' σ', Le g g' → RS W g' S H' → RSt W g' σd σ' → D.bk σ' H'
  | .ok (.ct σd) S => ∀ g' H' σ', Le g g' → RS W g' S H' → RSt W g' σd σ' → D.ct σ' H'
  | .ok (.er e σd) S => ∀ g' σ', Le g g' → RSt W g' σd σ' → ErrP W (fun c d H => E c d σ' H) g' e S
  | .err _ _ => False
  | .bad => False
def tEx (W : Wd) (E : WX) (f : St → List O → R Fl) : TS := fun D σ H => ∃ g S σd, RS W g S H ∧ RSt W g σd σ ∧ OutF W E D g (f σd S)
section
variable {W : Wd} {Φ : Fn} {n : Nat} {E : WX} {X : Cx} {T : Tab} {g g' : Gh} {S : List O} {H : Hp} {pins : List (Addr × Obj)} {σ : L2.St} {s : Shared} {D0 : Ends} {Wf : Nat}
variable {t : LT} {a b d e tg : Expr} {la lb lc l : LE} {pos p p2 : Pos} {st : Stmt} {sts body : List Stmt} {ls : LS} {lss lss2 : LSs}
theorem OutF.le (l : Le g g') {r : R Fl} (h : OutF W E D0 g r) : OutF W E D0 g' r := by
  cases r with
  | ok f S =>
    cases f with
    | nx σd => exact fun g2 H' σ' l2 => h g2 H' σ' (l.trans l2)
    | rt dd => exact fun g2 H' v l2 => h g2 H' v (l.trans l2)
    | bk σd => exact fun g2 H' σ' l2 => h g2 H' σ' (l.trans l2)
    | ct σd => exact fun g2 H' σ' l2 => h g2 H' σ' (l.trans l2)
    | er e σd => exact fun g2 σ' l2 => h g2 σ' (l.trans l2)
  | err e S => exact h
  | bad => exact h
theorem PS.mono {t t' : TS} (h : PS X st t) (k : ∀ D σ H, t' D σ H → t D σ H) : PS X st t' := ⟨fun pins s σ H D I q => h.run pins s σ H D I (k D σ H q)⟩
theorem PSs.mono {t t' : TS} (h : PSs X sts t) (k : ∀ D σ H, t' D σ H → t D σ H) : PSs X sts t' := ⟨fun pins s σ H D I q => h.run pins s σ H D I (k D σ H q)⟩
theorem OutF.bs {α β : Type} {rel : Gh → α → β → Prop} {r : R α} {f : α → List O → R Fl} {σd : St} (rst : RSt W g σd σ) (h : OutF W E D0 g (r.bs σd f)) :
    OutG W rel (fun c d H => E c d σ H) g r (fun x H1 => ∃ g1 S1 d, Le g g1 ∧ RS W g1 S1 H1 ∧ RSt W g1 σd σ ∧ rel g1 d x ∧ OutF W E D0 g1 (f d S1)) := by
  cases r with
  | ok d S => exact fun g' H' v l rs rd => ⟨g', S, d, l, rs, rst.mono l.to0, rd, OutF.le l h⟩
  | err e S => exact h g σ Le.rfl' rst
  | bad => exact h
theorem OutI.bs {r : R (List D × List Nat)} {f : (List D × List Nat) → List O → R Fl} {σd : St} (rst : RSt W g σd σ) (h : OutF W E D0 g (r.bs σd f)) :
    OutI W t (fun c d H => E c d σ H) g r (fun J H1 => ∃ g1 S1 ds ns, Le g g1 ∧ RS W g1 S1 H1 ∧ RSt W g1 σd σ ∧ Iters W t g1 S1 J ds ns ∧ OutF W E D0 g1 (f (ds, ns) S1)) := by
  cases r with
  | ok d S => exact fun g' H' J l rs it => ⟨g', S, d.1, d.2, l, rs, rst.mono l.to0, it, OutF.le l h⟩
  | err e S => exact h g σ Le.rfl' rst
  | bad => exact h
abbrev EX (W : Wd) (E : WX) (T : Tab) (Φ : Fn) (n : Nat) (l : LS) : TS := tEx W E (ex T Φ n l)
abbrev EXs (W : Wd) (E : WX) (T : Tab) (Φ : Fn) (n : Nat) (l : LSs) : TS := tEx W E (exs T Φ n l)
theorem pss_nilZ : PSs X [] (EXs W E T Φ Wf .nil) := PSs.mono pss_nil fun D σ H ⟨g, S, σd, rs, rst, o⟩ => by
  simp only [exs] at o
  exact o g H σ Le.rfl' rs rst
theorem pss_consZ (h1 : PS X st (EX W E T Φ Wf ls)) (h2 : PSs X sts (EXs W E T Φ Wf lss)) : PSs X (st :: sts) (EXs W E T Φ Wf (.cons ls lss)) := by
  refine PSs.mono (pss_cons h1 h2) fun D σ H ⟨g, S, σd, rs, rst, o⟩ => ⟨g, S, σd, rs, rst, ?_⟩
  simp only [exs] at o
  cases hr : ex T Φ Wf ls σd S with
  | ok f S1 =>
    rw [hr] at o
    cases f with
    | nx σ1 => exact fun g' H' σ' l rs' rst' => ⟨g', S1, σ1, rs', rst', OutF.le l o⟩
    | rt dd => exact o
    | bk σ1 => exact o
    | ct σ1 => exact o
    | er e σ1 => exact o
  | err e S1 => rw [hr] at o; exact o
  | bad => rw [hr] at o; exact o
theorem ps_pasZ : PS X (.Pass pos) (EX W E T Φ Wf .pas) := PS.mono ps_pass fun D σ H ⟨g, S, σd, rs, rst, o⟩ => by
  simp only [ex] at o
  exact o g H σ Le.rfl' rs rst
theorem ps_expZ (ha : PE X a (EV W E T Φ la)) (hs : swapsWith a none pos.line X.env = pure false) : PS X (.Expr a pos) (EX W E T Φ Wf (.exp la)) := by
  refine PS.mono (ps_expr ha hs) fun D σ H ⟨g, S, σd, rs, rst, o⟩ => ?_
  simp only [ex] at o
  exact ⟨g, S, σd, rs, rst, OutG.mono (OutF.bs rst o) fun x H1 ⟨g1, S1, d1, le1, rs1, rst1, rd1, o1⟩ => o1 g1 H1 σ Le.rfl' rs1 rst1⟩
theorem ps_retZ (ha : PE X a (EV W E T Φ la)) : PS X (.Return (some a) pos) (EX W E T Φ Wf (.ret la)) := by
  refine PS.mono (ps_ret ha) fun D σ H ⟨g, S, σd, rs, rst, o⟩ => ?_
  simp only [ex] at o
  exact ⟨g, S, σd, rs, rst, OutG.mono (OutF.bs rst o) fun x H1 ⟨g1, S1, d1, le1, rs1, rst1, rd1, o1⟩ => o1 g1 H1 x Le.rfl' rs1 rd1⟩
theorem ps_rtnZ : PS X (.Return none pos) (EX W E T Φ Wf .rtn) := PS.mono ps_retN fun D σ H ⟨g, S, σd, rs, rst, o⟩ => by
  simp only [ex] at o
  exact o g H .non Le.rfl' rs rfl
theorem ps_asgZ (hst : isStar tg = false) (ha : PE X a (EV W E T Φ la)) (hg : PG X tg (tPut W t)) (hs : swapsWithSole [tg] a pos.line X.env = pure false) (hw : swappedStores [tg] a X.env = pure none) : PS X (.Assign [tg] a pos) (EX W E T Φ Wf (.asg t la)) := by
  refine PS.mono (ps_asg ha hg hs hw (h1 := by rw [assignEach_cons hst]; rfl)) fun D σ H ⟨g, S, σd, rs, rst, o⟩ => ?_
  simp only [ex] at o
  refine ⟨g, S, σd, rs, rst, OutG.mono (OutF.bs rst o) fun x H1 ⟨g1, S1, d1, le1, rs1, rst1, rd1, o1⟩ => ?_⟩
  split at o1
  · rename_i σ1 hp
    exact ⟨g1, S1, σd, d1, σ1, rs1, rst1, relT_of rd1, hp, fun σ' rst' _ => o1 g1 H1 σ' Le.rfl' rs1 rst'⟩
  · exact o1.elim
theorem ps_ifZ {c : Expr} {sa sb : List Stmt} (hc : PT X c (EVb W E T Φ lc)) (ha : PSs X sa (EXs W E T Φ Wf lss)) (hb : PSs X sb (EXs W E T Φ Wf lss2)) : PS X (.If c sa sb pos) (EX W E T Φ Wf (.ifs lc lss lss2)) := by
  refine PS.mono (ps_if hc ha hb) fun D σ H ⟨g, S, σd, rs, rst, o⟩ => ?_
  have e : ex T Φ Wf (.ifs lc lss lss2) σd S = (tst T Φ lc σd S).bs σd fun k S => if k then exs T Φ Wf lss σd S else exs T Φ Wf lss2 σd S := by
    unfold tst
    simp only [ex]
    cases ev T Φ lc σd S with
    | ok x S1 =>
      simp only [R.bind_ok, R.bs_ok]
      cases ht : truth S1 x with
      | none => rfl
      | some k => cases k <;> rfl
    | err e S => rfl
    | bad => rfl
  rw [e] at o
  refine ⟨g, S, σd, rs, rst, OutG.mono (OutF.bs rst o) fun k H1 ⟨g1, S1, d1, le1, rs1, rst1, rd1, o1⟩ => ?_⟩
  subst rd1
  cases d1 with
  | true => exact ⟨g1, S1, σd, rs1, rst1, o1⟩
  | false => exact ⟨g1, S1, σd, rs1, rst1, o1⟩
open Classical in
theorem ps_forZ {it : Expr} {li : LI} (hp : PassesOwn (model X.prog X.w) X.A X.env X.xe) (hc : X.calm = true) (hi : PI X tg it (tEvI W t E (evI T Φ li))) (hg : PG X tg (tPut W t)) (hb : PSs X body (EXs W E T Φ Wf lss))
    (hs : ∀ x, foldedSetIterable it X.env x = pure x) : PS X (.For tg it body [] pos) (EX W E T Φ Wf (.fors t li lss)) := by
  refine PS.mono (ps_for hp hc hi hg hb hs) fun D σ H ⟨g, S, σd, rs, rst, o⟩ => ?_
  simp only [ex] at o
  refine ⟨g, S, σd, rs, rst, ?_⟩
  have ob := OutI.bs (t := t) rst o
  cases hr : evI T Φ li σd S with
  | bad => rw [hr] at ob; exact ob
  | err e S1 => rw [hr] at ob; exact ob
  | ok r S1 =>
    rw [hr] at ob
    obtain ⟨ds0, ns0⟩ := r
    intro g' H' J l rs' it'
    obtain ⟨g1, S1', ds, ns, le1, rs1, rst1, it1, o1⟩ := ob g' H' J l rs' it'
    refine ⟨fun i m σ H => m = ds.length - i ∧ i ≤ ds.length ∧ ∃ g S σd, Le g1 g ∧ RS W g S H ∧ RSt W g σd σ ∧ Keeps S1' ns S ∧ OutF W E D g (loopF t (fun σ S => exs T Φ Wf lss σ S) (Keeps S1' ns) (ds.drop i) σd S),
      ⟨ds.length, by simp, Nat.zero_le _, g1, S1', σd, Le.rfl', rs1, rst1, fun _ _ => rfl, o1⟩, ?_⟩
    rintro i m σ H ⟨rfl, hi, g2, S2, σ2, l2, rs2, rst2, k2, o2⟩
    by_cases hlt : i < ds.length
    · refine .inr ⟨it1.go g2 S2 H i l2 rs2 k2 hlt, fun σ' H' => ∃ g S σd, Le g1 g ∧ RS W g S H' ∧ RSt W g σd σ' ∧ Keeps S1' ns S ∧ OutF W E D g (loopF t (fun σ S => exs T Φ Wf lss σ S) (Keeps S1' ns) (ds.drop (i + 1)) σd S),
        fun σ' H' h => ⟨ds.length - (i + 1), by omega, rfl, hlt, h⟩, fun x H' hy => ?_⟩
      have hd : ds[i]? = some ds[i] := List.getElem?_eq_getElem hlt
      obtain ⟨g3, l3, rs3, rd3⟩ := it1.yld g2 S2 H i x H' ds[i] l2 rs2 k2 hd hy
      rw [List.drop_eq_getElem_cons hlt] at o2
      have o3 : OutF W E D g2 (match t.put ds[i] σ2 with
        | none => .bad
        | some σ' => match exs T Φ Wf lss σ' S2 with
          | .ok (.nx σ2) S2 => if Keeps S1' ns S2 then loopF t (fun σ S => exs T Φ Wf lss σ S) (Keeps S1' ns) (ds.drop (i + 1)) σ2 S2 else .bad
          | .ok (.ct σ2) S2 => if Keeps S1' ns S2 then loopF t (fun σ S => exs T Φ Wf lss σ S) (Keeps S1' ns) (ds.drop (i + 1)) σ2 S2 else .bad
          | .ok (.bk σ2) S2 => .ok (.nx σ2) S2
          | .ok (.rt d) S2 => .ok (.rt d) S2
          | .ok (.er e σ2) S2 => .ok (.er e σ2) S2
          | _ => .bad) := o2
      cases hput : t.put ds[i] σ2 with
      | none => rw [hput] at o3; exact o3.elim
      | some σ3 =>
        rw [hput] at o3
        dsimp only at o3
        refine ⟨g3, S2, σ2, ds[i], σ3, rs3, rst2.mono l3.to0, rd3, hput, fun σ' rst' _ => ⟨g3, S2, σ3, rs3, rst', ?_⟩⟩
        cases hx : exs T Φ Wf lss σ3 S2 with
        | ok f S4 =>
          rw [hx] at o3
          cases f with
          | nx σ4 =>
            dsimp only at o3
            by_cases hk : Keeps S1' ns S4
            · rw [if_pos hk] at o3
              exact fun g5 H5 σ5 l5 rs5 rst5 => ⟨g5, S4, σ4, l2.trans (l3.trans l5), rs5, rst5, hk, OutF.le (l3.trans l5) o3⟩
            · rw [if_neg hk] at o3
              exact o3.elim
          | ct σ4 =>
            dsimp only at o3
            by_cases hk : Keeps S1' ns S4
            · rw [if_pos hk] at o3
              exact fun g5 H5 σ5 l5 rs5 rst5 => ⟨g5, S4, σ4, l2.trans (l3.trans l5), rs5, rst5, hk, OutF.le (l3.trans l5) o3⟩
            · rw [if_neg hk] at o3
              exact o3.elim
          | bk σ4 => exact OutF.le l3 o3
          | rt dd => exact OutF.le l3 o3
          | er e σ4 => exact OutF.le l3 o3
        | err e S4 => rw [hx] at o3; exact o3.elim
        | bad => rw [hx] at o3; exact o3.elim
    · have e : i = ds.length := by omega
      subst e
      rw [List.drop_length] at o2
      exact .inl ⟨it1.stop g2 S2 H l2 rs2 k2, o2 g2 H σ Le.rfl' rs2 rst2⟩
end
end Z
end

section
set_option Elab.async false
set_option linter.all false
set_option maxRecDepth 100000
set_option maxHeartbeats 4000000
/-! Z, part 19: while, fields, items, augmented assignment. -/
namespace Z
open PySem PySem.W PySem.Spec PyProof.Rows L2 PySem.SeqAt
section
variable {W : Wd} {Φ : Fn} {n : Nat} {E : WX} {X : Cx} {T : Tab} {g g' : Gh} {S : List O} {H : Hp} {pins : List (Addr × Obj)} {σ : L2.St} {s : Shared} {D0 : Ends} {Wf : Nat}
variable {t : LT} {a b d e tg : Expr} {la lb lc l : LE} {pos p p2 : Pos} {st : Stmt} {sts body : List Stmt} {ls : LS} {lss lss2 : LSs}
theorem ps_whlZ {c : Expr} (hp : PassesOwn (model X.prog X.w) X.A X.env X.xe) (hc : PT X c (EVb W E T Φ lc)) (hb : PSs X body (EXs W E T Φ Wf lss)) : PS X (.While c body [] pos) (EX W E T Φ Wf (.whl lc lss)) := by
  refine PS.mono (ps_while hp hc hb) fun D σ H ⟨g, S, σd, rs, rst, o⟩ => ?_
  simp only [ex] at o
  refine ⟨fun m σ H => ∃ g S σd, RS W g S H ∧ RSt W g σd σ ∧ OutF W E D g (loopW (tst T Φ lc) (fun σ S => exs T Φ Wf lss σ S) m σd S), ⟨Wf, g, S, σd, rs, rst, o⟩, ?_⟩
  rintro m σ H ⟨g, S, σd, rs, rst, o⟩
  cases m with
  | zero => exact o.elim
  | succ m =>
    have o' : OutF W E D g ((tst T Φ lc σd S).bs σd fun k S1 => match k with
      | true => match exs T Φ Wf lss σd S1 with
        | .ok (.nx σ2) S2 => loopW (tst T Φ lc) (fun σ S => exs T Φ Wf lss σ S) m σ2 S2
        | .ok (.ct σ2) S2 => loopW (tst T Φ lc) (fun σ S => exs T Φ Wf lss σ S) m σ2 S2
        | .ok (.bk σ2) S2 => .ok (.nx σ2) S2
        | .ok (.rt d) S2 => .ok (.rt d) S2
        | .ok (.er e σ2) S2 => .ok (.er e σ2) S2
        | _ => .bad
      | false => .ok (.nx σd) S1) := o
    refine ⟨g, S, σd, rs, rst, OutG.mono (OutF.bs rst o') fun k H1 ⟨g1, S1, d1, le1, rs1, rst1, rd1, o1⟩ => ?_⟩
    subst rd1
    cases d1 with
    | false => exact o1 g1 H1 σ Le.rfl' rs1 rst1
    | true =>
      refine ⟨fun σ' H' => ∃ g S σd, RS W g S H' ∧ RSt W g σd σ' ∧ OutF W E D g (loopW (tst T Φ lc) (fun σ S => exs T Φ Wf lss σ S) m σd S), fun σ' H' h => ⟨m, Nat.lt_succ_self m, h⟩, g1, S1, σd, rs1, rst1, ?_⟩
      dsimp only at o1
      cases hx : exs T Φ Wf lss σd S1 with
      | ok f S4 =>
        rw [hx] at o1
        cases f with
        | nx σ4 => exact fun g5 H5 σ5 l5 rs5 rst5 => ⟨g5, S4, σ4, rs5, rst5, OutF.le l5 o1⟩
        | ct σ4 => exact fun g5 H5 σ5 l5 rs5 rst5 => ⟨g5, S4, σ4, rs5, rst5, OutF.le l5 o1⟩
        | bk σ4 => exact o1
        | rt dd => exact o1
        | er e σ4 => exact o1
      | err e S4 => rw [hx] at o1; exact o1.elim
      | bad => rw [hx] at o1; exact o1.elim
theorem putf_rel (inj : ∀ i j, W.fld i = W.fld j → i = j) {f : Nat} {x : D} {v : V} (r : RD W g x v) : ∀ {fs : List Nat} {ds : List D} {vs : List V}, fs.length = vs.length → RDs W g ds vs →
    ∃ ws, putF (W.fld f) v ((fs.map W.fld).zip vs) = (((putf fs ds f x).1.map W.fld).zip ws) ∧ (putf fs ds f x).1.length = ws.length ∧ RDs W g (putf fs ds f x).2 ws
  | [], ds, vs, hl, h => by
    have : vs = [] := List.length_eq_zero_iff.mp hl.symm
    subst this
    have hd : ds = [] := List.length_eq_zero_iff.mp h.length
    subst hd
    exact ⟨[v], rfl, rfl, v, [], rfl, r, rfl⟩
  | k :: fs, ds, [], hl, _ => by simp at hl
  | k :: fs, [], v' :: vs, hl, h => by have := h.length; simp at this
  | k :: fs, d :: ds, v' :: vs, hl, h => by
    obtain ⟨_, _, e, h1, h2⟩ := h
    cases e
    by_cases hk : k = f
    · subst hk
      refine ⟨v :: vs, ?_, ?_, ?_⟩
      · simp [putF, putf]
      · simpa [putf] using hl
      · simp only [putf, if_true]
        exact ⟨v, vs, rfl, r, h2⟩
    · obtain ⟨ws, q1, q2, q3⟩ := putf_rel inj r (fs := fs) (ds := ds) (vs := vs) (by simpa using hl) h2
      have hne : ¬ W.fld k = W.fld f := fun z => hk (inj _ _ z)
      have hne' : ¬ W.fld f = W.fld k := fun z => hk (inj _ _ z.symm)
      refine ⟨v' :: ws, ?_, ?_, ?_⟩
      · simp only [putf, if_neg hk, List.map_cons, List.zip_cons_cons]
        rw [← q1]
        simp [putF, hne, hne']
      · simp only [putf, if_neg hk, List.length_cons, q2]
      · simp only [putf, if_neg hk]
        exact ⟨v', ws, rfl, h1, q3⟩
theorem ps_asaZ (c : Cs W Φ n E X) (wf : Z.Wf W T) {f : Nat} (ho : PE X b (EV W E T Φ lb)) (hv : PE X a (EV W E T Φ la)) (hs : swapsWith a (some (.Attribute b (W.fld f) p)) pos.line X.env = pure false) :
    PS X (.Assign [.Attribute b (W.fld f) p] a pos) (EX W E T Φ Wf (.asa lb f la)) := by
  refine PS.mono (ps_fld ho hv hs) fun D σ H ⟨g, S, σd, rs, rst, o⟩ => ?_
  simp only [ex] at o
  refine ⟨g, S, σd, rs, rst, OutG.mono (OutF.bs rst o) fun y H1 ⟨g1, S1, d1, le1, rs1, rst1, rd1, o1⟩ => ?_⟩
  refine ⟨g1, S1, σd, rs1, rst1, OutG.mono (OutF.bs rst1 o1) fun x H2 ⟨g2, S2, d2, le2, rs2, rst2, rd2, o2⟩ => ?_⟩
  cases d2 with
  | ref m =>
    dsimp only at o2
    split at o2
    · rename_i cc fs vs he
      split at o2
      · rename_i hk
        obtain ⟨q, hq, rfl⟩ := rd2
        obtain ⟨ho', h1, dx, ws, rfl, hl, r⟩ := rs2.obj m _ q he hq
        have ic := wf.icls cc hk.2.1
        have na := wf.noat cc f hk.2.2
        rw [← c.K] at ic na
        obtain ⟨us, e1, e2, e3⟩ := putf_rel wf.inj (rd1.mono le2.to0) hl r
        refine ⟨q, _, dx, _, rfl, h1, ic.cl, na, ?_, ?_⟩
        · simp only [List.length_zip, List.length_map]
          omega
        · rw [e1]
          exact o2 g2 _ σ Le.rfl' (rs2.write hq ⟨dx, us, rfl, e2, e3⟩) rst2
      · exact o2.elim
    · exact o2.elim
  | _ => exact o2.elim
theorem ps_augZ {i : Nat} {x : Str} {op : Operator} (hop : op = .Add ∨ op = .Sub) (hN : X.N.Nodup) (hi : X.N[i]? = some x) (hx : Loc X.env.scope x) (ha : PE X a (EV W E T Φ la)) (hf : X.fn x = true ∨ X.env.scope.names.lookup x = some .local) :
    PS X (.AugAssign (.Name x p) op a pos) (EX W E T Φ Wf (.aug i op la)) := by
  have key : ∀ {k : Int → Int → Int} {ti : TIp} (ho : PIp X op ti) (hti : ∀ i j H Q, Q (V.int (k i j)) H → ti (.int i) (.int j) H Q)
      (hev : ∀ σd S v, σd[i]? = some (some (.int v)) → ex T Φ Wf (.aug i op la) σd S = (ev T Φ la σd S).bs σd fun y S => match y with | .int b => .ok (.nx (σd.set i (some (.int (k v b))))) S | _ => .bad),
      PS X (.AugAssign (.Name x p) op a pos) (EX W E T Φ Wf (.aug i op la)) := fun {k ti} ho hti hev => by
    refine PS.mono (ps_aug hN hi hx ha ho hf) fun D σ H ⟨g, S, σd, rs, rst, o⟩ => ?_
    have hsl : ∃ v, σd[i]? = some (some (.int v)) := by
      simp only [ex] at o
      split at o
      · rename_i v h
        exact ⟨v, h⟩
      · exact o.elim
    obtain ⟨v, hsl⟩ := hsl
    obtain ⟨u, hu, ru⟩ := rst i _ hsl
    cases ru
    rw [hev σd S v hsl] at o
    refine ⟨_, hu, g, S, σd, rs, rst, OutG.mono (OutF.bs rst o) fun y H1 ⟨g1, S1, d1, le1, rs1, rst1, rd1, o1⟩ => ?_⟩
    cases d1 with
    | int b =>
      cases rd1
      exact hti _ _ _ _ (o1 g1 H1 _ Le.rfl' rs1 (rst_set rst1 rfl (List.getElem?_eq_some_iff.mp hu).1))
    | _ => exact o1.elim
  rcases hop with rfl | rfl
  · refine key (k := fun i j => i + j) in_add (fun i j H Q q => ⟨i, j, rfl, rfl, q⟩) fun σd S v h => ?_
    simp only [ex, h]
    cases ev T Φ la σd S with
    | ok y S1 => cases y <;> rfl
    | err e S1 => rfl
    | bad => rfl
  · refine key (k := fun i j => i - j) in_sub (fun i j H Q q => ⟨i, j, rfl, rfl, q⟩) fun σd S v h => ?_
    simp only [ex, h]
    cases ev T Φ la σd S with
    | ok y S1 => cases y <;> rfl
    | err e S1 => rfl
    | bad => rfl
end
end Z
end

section
set_option Elab.async false
set_option linter.all false
set_option maxRecDepth 100000
set_option maxHeartbeats 4000000
/-! Z, part 20: a def keeps what Phi tells. -/
namespace Z
open PySem PySem.W PySem.Spec PyProof.Rows L2 PySem.SeqAt
section
variable {W : Wd} {T : Tab} {g : Gh} {S : List O} {Wn n : Nat}
theorem frz_exc {S : List O} {k m c : Nat} {d : D} : ∃ d', frz S k m (.exc c d) = .exc c d' ∧ ∀ (W : Wd) (g : Gh) (H : Hp) (v : V), RS W g S H → RD W g d v → d'.und k = true → RD W (cutG g k H) d' v := by
  cases m with
  | zero => exact ⟨d, rfl, fun W g H v rs rd u => RD.cut rs rd u⟩
  | succ m =>
    unfold frz
    split
    · exact ⟨d, rfl, fun W g H v rs rd u => RD.cut rs rd u⟩
    · exact ⟨frz S k m d, rfl, fun W g H v rs rd u => RD.frz rs m d v rd u⟩
theorem finE_out {Ex : XK} {Q : VK} {H0 : Hp} {e : D} {S' : List O} (rs : RS W g S H0) (o : Out W Ex g (finE S e S') Q) {g' : Gh} (le : Le g g') : ErrP W Ex g' e S' := by
  unfold finE at o
  split at o
  · rename_i hk
    have o' : ErrP W Ex g (frz S' S.length 12 e) (S'.take S.length) := o
    cases e with
    | exc c d =>
      obtain ⟨d', e', hd'⟩ := frz_exc (S := S') (k := S.length) (m := 12) (c := c) (d := d)
      rw [e'] at o' hk
      intro g2 H' v dx l2 rs2 rd hx
      have h4 : (S'.take S.length).all (O.und S.length) = true := by
        rcases hk.2.2 with h3 | h3
        · rw [h3]
          exact rs.unds
        · exact h3
      have l := le.trans l2
      refine o' (cutG g2 S.length H') H' v dx ⟨fun a o e => cut_hs rs2 (l.hs a o e), fun n a e => cut_ρ (l.ρ n a e) ?_, l.pn⟩ (rs2.cut hk.1 h4) (hd' W g2 H' v rs2 rd hk.2.1) hx
      rw [← rs.len]
      exact (List.getElem?_eq_some_iff.mp e).1
    | ref m =>
      have : (frz S' S.length 12 (.ref m)).und S.length = true := hk.2.1
      revert o'
      unfold frz
      split
      · exact fun z => z
      · dsimp only
        split <;> exact fun z => z
    | set ds =>
      revert o'
      unfold frz
      split <;> exact fun z => z
    | _ =>
      revert o'
      unfold frz
      split <;> exact fun z => z
  · exact o.elim
theorem phi_out {f : Nat} {F : FnDef} {ds : List D} {Ex : XK} {Q : VK} {H0 : Hp} (hF : T.fns.lookup f = some F) (hl : ds.length = F.ps) (rs : RS W g S H0) (o : Out W Ex g (Phi T Wn (n + 1) f ds S) Q) :
    OutF W (fun cls d _ H => Ex cls d H) { nx := fun _ H' => Q .non H', rt := Q } g (exs T (Phi T Wn n) Wn F.body (ds.map some ++ List.replicate (F.n - ds.length) none) S) := by
  unfold Phi at o
  rw [hF] at o
  dsimp only at o
  rw [if_pos ⟨by omega, by omega⟩] at o
  rw [show F.dfl.drop (F.dfl.length - (F.ps - ds.length)) = [] by rw [hl, Nat.sub_self, Nat.sub_zero, List.drop_length], List.append_nil] at o
  cases hx : exs T (Phi T Wn n) Wn F.body (ds.map some ++ List.replicate (F.n - ds.length) none) S with
  | ok r S' =>
    rw [hx] at o
    cases r with
    | rt d =>
      intro g' H' v l rs' rd
      dsimp only at o
      split at o
      · exact fin_out rs o l rs' rd
      · exact o g' H' v l rs' rd
    | nx σd =>
      intro g' H' σ' l rs' _
      dsimp only at o
      split at o
      · exact fin_out rs o l rs' rfl
      · exact o g' H' .non l rs' rfl
    | er e σd => exact fun g' σ' l _ => finE_out rs o l
    | bk σd => exact o.elim
    | ct σd => exact o.elim
  | err e S' => rw [hx] at o; exact o.elim
  | bad => rw [hx] at o; exact o.elim
theorem rst_start {N : List PySem.Str} {ds : List D} {vs : List V} (r : RDs W g ds vs) : RSt W g (ds.map some ++ List.replicate (N.length - ds.length) none) (L2.start N vs) := fun i d e => by
  unfold L2.start
  by_cases h : i < ds.length
  · rw [List.getElem?_append_left (by simpa using h), List.getElem?_map] at e
    obtain ⟨d', e1, e2⟩ := Option.map_eq_some_iff.mp e
    cases e2
    obtain ⟨v, e3, r3⟩ := r.get e1
    refine ⟨v, ?_, r3⟩
    rw [List.getElem?_append_left (by rw [List.length_map, ← r.length]; exact h), List.getElem?_map, e3]
    rfl
  · rw [List.getElem?_append_right (by simpa using Nat.le_of_not_lt h), List.getElem?_replicate] at e
    split at e <;> cases e
/-- THE STEP: a def without defaults whose body keeps its reading -/
theorem fnz_step {f : Nat} {F : FnDef} {name qual : PySem.Str} {params : Arguments} {body : List Stmt} {scope : Scope} {dV kV doc pm cdv ct oc : Value} {an od : Option Addr} {osl : Array (Option Value)} {N ps : List PySem.Str}
    (hF : T.fns.lookup f = some F) (lk : W.K.lookup (W.fnA f) = some ⟨oc, od, .func (PySem.W.fnOf name qual params body scope dV kV doc pm an cdv ct), osl⟩) (hcd : PySem.W.codeIn W.K cdv qual = true) (Sc : FnScope N ps scope)
    (hps : ps.length = F.ps) (hN : N.length = F.n) (hb : Binds W.K (PySem.W.fnOf name qual params body scope dV kV doc pm an cdv ct) ps [])
    (hlen : ∀ ds S, ds.length ≠ F.ps → Phi T Wn (n + 1) f ds S = .bad)
    (fz : ∀ f', FnZ W (Phi T Wn n) n f')
    (hbody : ∀ (A : Around) (outer : List Env) (s : Shared) (H : Hp) (Ex : XK), let X := cxOf (L2.CX W.P W.w) W.P W.w W.K W.mg W.base N qual scope (W.fnA f) cdv A outer s H Ex
      Cs W (Phi T Wn n) n (fun cls d _ H => Ex cls d H) X → PSs X body (EXs W (fun cls d _ H => Ex cls d H) T (Phi T Wn n) Wn F.body)) :
    FnZ W (Phi T Wn (n + 1)) (n + 1) f := by
  intro A outer s H us vs ds g S Q Ex hr hg e0 rv rs rd o
  have hl : ds.length = F.ps := by
    by_cases h : ds.length = F.ps
    · exact h
    · rw [hlen ds S h] at o
      exact o.elim
  have hlv : vs.length = ps.length := by rw [← rd.length, hl, hps]
  have KX : W.K.In s.heap := e0.mod.kin.keeps fun b o e => (e0.bs b o e).1
  have limt : s.heap.NoLimit := e0.mod.nolimit.keeps fun b o e => (e0.bs b o e).1
  have hkind : ∀ y ∈ ps.zip us, scope.names.lookup y.1 = some .local ∨ (scope.names.lookup y.1 = some .cell ∧ ((cellsFrom (s.heap.objs.size + 1) scope.names []).lookup y.1).isSome = true) := fun ⟨n, v⟩ hy => by
    rcases Sc.par n (List.of_mem_zip hy).1 with q | q
    · exact .inl q
    · exact .inr ⟨q, PySem.W.cellsFrom_some _ _ _ (.inl q)⟩
  have hbind := hb s us KX (by rw [List.append_nil, ← rv.length]; exact hlv)
  rw [List.append_nil] at hbind
  have hr' : Room (2 * n + 3) A := hr
  refine codeAny_call_function hr.depth (KX _ _ lk) rfl Sc.co Sc.gen rfl (PySem.W.codeRec_of KX hcd) (hbind _ _ _ _ ?_)
  refine wpAny_newFunctionEnv_cells Sc.kind hkind fun env he s1 x => ?_
  subst he
  refine ⟨limt.keeps x.toInCall.keep, codeAny_func ?_⟩
  have I : Inv (cxOf (L2.CX W.P W.w) W.P W.w W.K W.mg W.base N qual scope (W.fnA f) cdv A outer s H Ex) [] (L2.start N vs) H s1 := inv_start Sc hr.hd e0 hlv rv x
  have c : Cs W (Phi T Wn n) n (fun cls d _ H => Ex cls d H) (cxOf (L2.CX W.P W.w) W.P W.w W.K W.mg W.base N qual scope (W.fnA f) cdv A outer s H Ex) :=
    ⟨rfl, rfl, rfl, rfl, rfl, rfl, Sc.nd, Room.deeper (k := 2 * n + 2) hr' _, hg, fz, takes_of (E := Ex) rfl rfl rfl rfl⟩
  have ht := hbody A outer s H Ex c
  have rst := rst_start (N := N) rd
  rw [hN] at rst
  have hq := phi_out (n := n) (Wn := Wn) hF hl rs o
  refine wpAny_mono (ht.run [] s1 (L2.start N vs) H _ I ⟨g, S, _, rs, rst, hq⟩) (fun fl s' hs => ?_) fun e s' hs => hs
  have fin : ∀ {σ' : L2.St} {H' : Hp} {v : V} {u : Value}, Inv (cxOf (L2.CX W.P W.w) W.P W.w W.K W.mg W.base N qual scope (W.fnA f) cdv A outer s H Ex) [] σ' H' s' → RelV v u → Q v H' → CE outer W.P W.w H s Q u s' :=
    fun {σ' H' v u} J rv q => ⟨v, H', J.os, J.bare, J.base, J.hok, rv, q⟩
  cases fl with
  | ret u =>
    obtain ⟨v, σ', H', J, rv, q⟩ := hs
    exact fin J rv q
  | next =>
    obtain ⟨σ', H', J, q⟩ := hs
    exact fin (v := V.non) (u := Value.none) J rfl q
  | brk =>
    obtain ⟨_, _, _, q⟩ := hs
    exact False.elim q
  | cont =>
    obtain ⟨_, _, _, q⟩ := hs
    exact False.elim q
end
end Z
end

section
set_option Elab.async false
set_option linter.all false
set_option maxRecDepth 100000
set_option maxHeartbeats 4000000
/-! Z, part 21: list comprehensions. -/
namespace Z
open PySem PySem.W PySem.Spec PyProof.Rows L2 PySem.SeqAt
abbrev E0 : WX := fun _ _ _ _ => False
theorem wipe_get {σ : L2.St} {j : Nat} : ∀ {vs : List Nat}, (L2.wipe σ vs)[j]? = if j ∈ vs then (σ[j]?).map (fun _ => none) else σ[j]?
  | [] => by simp [L2.wipe]
  | v :: vs => by
    show ((L2.wipe σ vs).set v none)[j]? = _
    rw [List.getElem?_set, L2.wipe_length, wipe_get (vs := vs)]
    by_cases h : v = j
    · subst h
      rw [if_pos rfl, if_pos (List.mem_cons_self ..)]
      split
      · rename_i hl
        simp [hl]
      · rename_i hl
        rw [List.getElem?_eq_none (Nat.le_of_not_lt hl)]
        rfl
    · rw [if_neg h]
      have : (j ∈ v :: vs) ↔ j ∈ vs := by simp [Ne.symm h]
      by_cases hj : j ∈ vs
      · rw [if_pos hj, if_pos (this.mpr hj)]
      · rw [if_neg hj, if_neg (fun z => hj (this.mp z))]
theorem only_wipe {ss vs : List Nat} {σ σ' : L2.St} (h : Only ss σ σ') (hs : ∀ j ∈ ss, j ∈ vs) : L2.wipe σ' vs = L2.wipe σ vs := by
  refine List.ext_getElem? fun j => ?_
  rw [wipe_get, wipe_get]
  by_cases hj : j ∈ vs
  · rw [if_pos hj, if_pos hj]
    have hl := h.1
    by_cases hlt : j < σ.length
    · rw [List.getElem?_eq_getElem hlt, List.getElem?_eq_getElem (by omega)]
      rfl
    · rw [List.getElem?_eq_none (by omega), List.getElem?_eq_none (by omega)]
  · rw [if_neg hj, if_neg hj]
    exact h.2 j fun z => hj (hs j z)
theorem rst_wipe {W : Wd} {g : Gh} {σd : St} {σ : L2.St} (rst : RSt W g σd σ) : ∀ {vs : List Nat}, RSt W g (Z.wipe σd vs) (L2.wipe σ vs)
  | [] => rst
  | v :: vs => fun i d e => by
    have e' : ((Z.wipe σd vs).set v none)[i]? = some (some d) := e
    rw [List.getElem?_set] at e'
    by_cases h : v = i
    · rw [if_pos h] at e'
      split at e' <;> cases e'
    · rw [if_neg h] at e'
      obtain ⟨w, q, r⟩ := rst_wipe rst i d e'
      refine ⟨w, ?_, r⟩
      show ((L2.wipe σ vs).set v none)[i]? = _
      rw [List.getElem?_set, if_neg h]
      exact q
theorem wipe_wipe {σ : L2.St} {vs : List Nat} : L2.wipe (L2.wipe σ vs) vs = L2.wipe σ vs := by
  refine List.ext_getElem? fun j => ?_
  rw [wipe_get, wipe_get]
  by_cases hj : j ∈ vs
  · rw [if_pos hj, if_pos hj]
    cases σ[j]? <;> rfl
  · rw [if_neg hj, if_neg hj]
theorem upd_id {H : Hp} {a : Addr} {o : HO} (h : H a = some o) : upd H a o = H := funext fun b => by
  unfold upd
  split
  · rename_i e
    rw [e, h]
  · rfl
/-! the list made so far and what comes -/
def lcEnd (mu : Bool) (xs : List D) (S : List O) : R D := if xs.length ≤ lim then if mu then .ok (.ref S.length) (S ++ [.lst xs]) else .ok (.lst xs) S else .bad
def lcFin (mu : Bool) (da : List D) (r : R (List D)) : R D := match r with
  | .ok xs S => lcEnd mu (da ++ xs) S
  | _ => .bad
theorem lcFin_cons {W : Wd} {α : Type} {rel : Gh → D → α → Prop} {Ex : XK} {g : Gh} {Q : α → Hp → Prop} {mu : Bool} {da : List D} {f : D → List O → R (List D)} {keep : List O → Prop} [DecidablePred keep] {d : D} {ds : List D} {S : List O}
    (o : OutG W rel Ex g (lcFin mu da (map1 f keep (d :: ds) S)) Q) : ∃ x S1, f d S = .ok x S1 ∧ keep S1 ∧ OutG W rel Ex g (lcFin mu (da ++ x) (map1 f keep ds S1)) Q := by
  unfold map1 at o
  cases hf : f d S with
  | ok x S1 =>
    rw [hf] at o
    dsimp only at o
    by_cases hk : keep S1
    · rw [if_pos hk] at o
      refine ⟨x, S1, rfl, hk, ?_⟩
      cases hm : map1 f keep ds S1 with
      | ok xs S2 =>
        rw [hm] at o
        have o' : OutG W rel Ex g (lcEnd mu (da ++ (x ++ xs)) S2) Q := o
        rw [← List.append_assoc] at o'
        exact o'
      | err e S2 => rw [hm] at o; exact o
      | bad => rw [hm] at o; exact o
    · rw [if_neg hk] at o
      exact o.elim
  | err e S1 => rw [hf] at o; exact o.elim
  | bad => rw [hf] at o; exact o.elim
theorem lcFin_len {W : Wd} {α : Type} {rel : Gh → D → α → Prop} {Ex : XK} {g : Gh} {Q : α → Hp → Prop} {mu : Bool} {da : List D} {r : R (List D)} (o : OutG W rel Ex g (lcFin mu da r) Q) : da.length ≤ lim := by
  cases r with
  | ok xs S =>
    have o' : OutG W rel Ex g (lcEnd mu (da ++ xs) S) Q := o
    unfold lcEnd at o'
    split at o'
    · rename_i h
      rw [List.length_append] at h
      omega
    · exact o'.elim
  | err e S => exact o.elim
  | bad => exact o.elim
/-- the list is made -/
theorem lc_made {W : Wd} {Ex : XK} {g g1 : Gh} {S : List O} {H : Hp} {Q : VK} {mu : Bool} {da : List D} {acc : List V} {Dp : Addr} (l : Le g1 g) (hpD : g1.pn Dp = none) (rs : RS W g S H) (hp : g.pn Dp = some (.lst acc)) (rd : RDs W g da acc)
    (o : Out W Ex g1 (lcEnd mu da S) Q) : Q (.ref Dp) H := by
  have hH : upd H Dp (.lst acc) = H := upd_id (rs.pin _ _ hp)
  unfold lcEnd at o
  split at o
  · cases mu with
    | true =>
      obtain ⟨rs', l'⟩ := rs.madeS (ob' := .lst da) (o' := .lst acc) hp ⟨acc, rfl, rd⟩
      rw [hH] at rs'
      refine o _ H _ ⟨fun a u e => l'.hs _ _ (l.hs _ _ e), fun n a e => l'.ρ _ _ (l.ρ _ _ e), fun a u e => ?_⟩ rs' ⟨Dp, ?_, rfl⟩
      · show drp g.pn Dp a = some u
        unfold drp
        rw [if_neg (fun z => by rw [z, hpD] at e; cases e)]
        exact l.pn _ _ e
      · show (g.ρ ++ [Dp])[S.length]? = _
        rw [← rs.len]
        simp
    | false =>
      obtain ⟨rs', l'⟩ := rs.made (o' := .lst acc) hp
      rw [hH] at rs'
      refine o _ H _ ⟨fun a u e => l'.hs _ _ (l.hs _ _ e), fun n a e => l'.ρ _ _ (l.ρ _ _ e), fun a u e => ?_⟩ rs' ⟨Dp, acc, rfl, by exact upd_same, rd.mono l'⟩
      show drp g.pn Dp a = some u
      unfold drp
      rw [if_neg (fun z => by rw [z, hpD] at e; cases e)]
      exact l.pn _ _ e
  · exact o.elim
section
variable {W : Wd} {Φ : Fn} {n : Nat} {E : WX} {X : Cx} {T : Tab} {g : Gh} {S : List O} {t : LT} {l : LE} {li : LI} {lo : LO} {vs : List Nat} {mu : Bool}
theorem Le.remake {g g1 : Gh} (l : Le g1 g) {Dp : Addr} (hpD : g1.pn Dp = none) (o : HO) : Le g1 ⟨g.hs, g.ρ, upd g.pn Dp o⟩ := ⟨l.hs, l.ρ, fun a u e => by
  show upd g.pn Dp o a = some u
  rw [upd_ne (fun z => by rw [z, hpD] at e; cases e)]
  exact l.pn _ _ e⟩
open Classical in
theorem lc_read {σ : L2.St} {H : Hp} {Q : VK} (hsl : ∀ j ∈ t.slots, j ∈ vs) (h : EV W E T Φ (.lc mu l t li lo vs) σ H Q) :
    tLc (tEvI W t E (evI T Φ li)) (tPut W t) (tEvB W E0 (evT T Φ lo)) (EV W E0 T Φ l) vs σ H Q := by
  obtain ⟨g, S, σd, rs, rst, o⟩ := h
  simp only [ev] at o
  refine ⟨g, S, σd, rs, rst, ?_⟩
  have ob := OutI.bind (t := t) rst o
  cases hr : evI T Φ li σd S with
  | bad => rw [hr] at ob; exact ob
  | err e S1 => rw [hr] at ob; exact ob
  | ok r S1 =>
    rw [hr] at ob
    obtain ⟨ds0, ns0⟩ := r
    intro g' H' J l' rs' it' Dp hD
    obtain ⟨g1, S1', ds, ns, le1, rs1, rst1, it1, o1⟩ := ob g' H' J l' rs' it'
    dsimp only at o1
    obtain ⟨rsD, leD⟩ := rs1.make (o := .lst []) hD
    have hpD : g1.pn Dp = none := by
      cases e : g1.pn Dp with
      | none => rfl
      | some u => rw [rs1.pin Dp u e] at hD; cases hD
    generalize hf : (fun (d : D) (S : List O) => match t.put d (Z.wipe σd vs) with
        | none => R.bad
        | some σ' => (evT T Φ lo σ' S).bind fun b S => if b = true then (ev T Φ l σ' S).bind fun x S => .ok [x] S else .ok [] S) = f at o1
    have hfe : ∀ d S, f d S = (match t.put d (Z.wipe σd vs) with
        | none => R.bad
        | some σ' => (evT T Φ lo σ' S).bind fun b S => if b = true then (ev T Φ l σ' S).bind fun x S => .ok [x] S else .ok [] S) := fun d S => by rw [← hf]
    refine ⟨fun i m H => m = ds.length - i ∧ i ≤ ds.length ∧ ∃ g S acc da, Le g1 g ∧ RS W g S H ∧ RSt W g (Z.wipe σd vs) (L2.wipe σ vs) ∧ Keeps S1' ns S ∧ g.pn Dp = some (.lst acc) ∧ RDs W g da acc ∧
      Out W (fun c d H => E c d σ H) g1 (lcFin mu da (map1 f (Keeps S1' ns) (ds.drop i) S)) Q, ⟨ds.length, by simp, Nat.zero_le _, _, S1', [], [], leD, rsD, rst_wipe (rst1.mono leD.to0), fun _ _ => rfl, by exact upd_same, rfl, ?_⟩, ?_⟩
    · rw [List.drop_zero]
      cases hm : map1 f (Keeps S1' ns) ds S1' with
      | ok xs S2 => rw [hm] at o1; exact o1
      | err e S2 => rw [hm] at o1; exact o1
      | bad => rw [hm] at o1; exact o1
    rintro i m H ⟨rfl, hi, g2, S2, acc, da, l2, rs2, rst2, k2, hp2, rda, o2⟩
    by_cases hlt : i < ds.length
    · refine .inr ⟨it1.go g2 S2 H i l2 rs2 k2 hlt, fun H => ∃ g S acc da, Le g1 g ∧ RS W g S H ∧ RSt W g (Z.wipe σd vs) (L2.wipe σ vs) ∧ Keeps S1' ns S ∧ g.pn Dp = some (.lst acc) ∧ RDs W g da acc ∧
        Out W (fun c d H => E c d σ H) g1 (lcFin mu da (map1 f (Keeps S1' ns) (ds.drop (i + 1)) S)) Q, fun H' h => ⟨ds.length - (i + 1), by omega, rfl, hlt, h⟩, fun x H' hy => ?_⟩
      have hd : ds[i]? = some ds[i] := List.getElem?_eq_getElem hlt
      obtain ⟨g3, l3, rs3, rd3⟩ := it1.yld g2 S2 H i x H' ds[i] l2 rs2 k2 hd hy
      rw [List.drop_eq_getElem_cons hlt] at o2
      obtain ⟨xs, S4, e4, k4, o4⟩ := lcFin_cons o2
      rw [hfe] at e4
      cases hput : t.put ds[i] (Z.wipe σd vs) with
      | none => rw [hput] at e4; cases e4
      | some σ' =>
        rw [hput] at e4
        dsimp only at e4
        refine ⟨g3, S2, Z.wipe σd vs, ds[i], σ', rs3, rst2.mono l3.to0, rd3, hput, fun σ2 rst' on => ⟨?_, g3, S2, σ', rs3, rst', ?_⟩⟩
        · rw [only_wipe on hsl, wipe_wipe]
        · cases hT : evT T Φ lo σ' S2 with
          | bad => rw [hT] at e4; cases e4
          | err e S => rw [hT] at e4; cases e4
          | ok b S3 =>
            rw [hT] at e4
            simp only [R.bind_ok] at e4
            intro g4 H3 b' l4 rs4 eb
            subst eb
            cases b with
            | false =>
              rw [if_neg (by simp)]
              rw [if_neg (by simp)] at e4
              cases e4
              rw [List.append_nil] at o4
              have l14 := l3.trans l4
              exact ⟨g4, S4, acc, da, l2.trans l14, rs4, rst2.mono l14.to0, k4, l14.pn _ _ hp2, rda.mono l14.to0, o4⟩
            | true =>
              rw [if_pos rfl]
              rw [if_pos rfl] at e4
              refine ⟨g4, S3, σ', rs4, rst'.mono l4.to0, ?_⟩
              cases hE : ev T Φ l σ' S3 with
              | bad => rw [hE] at e4; cases e4
              | err e S => rw [hE] at e4; cases e4
              | ok d S5 =>
                rw [hE] at e4
                simp only [R.bind_ok] at e4
                cases e4
                intro g5 H4 y l5 rs5 rd5
                have l15 := l3.trans (l4.trans l5)
                have hp5 := l15.pn _ _ hp2
                have hlen := lcFin_len o4
                have hl2 := rda.length
                rw [List.length_append, List.length_cons, List.length_nil] at hlen
                have l2x : Le0 g2 ⟨g5.hs, g5.ρ, upd g5.pn Dp (.lst (acc ++ [y]))⟩ := ⟨l15.hs, l15.ρ⟩
                have l5x : Le0 g5 ⟨g5.hs, g5.ρ, upd g5.pn Dp (.lst (acc ++ [y]))⟩ := ⟨fun _ _ e => e, fun _ _ e => e⟩
                refine ⟨acc, rs5.pin _ _ hp5, by rw [← lim_eq]; omega, ⟨g5.hs, g5.ρ, upd g5.pn Dp (.lst (acc ++ [y]))⟩, S4, acc ++ [y], da ++ [d], (l2.trans l15).remake hpD _, rs5.remake hp5, rst2.mono l2x, k4, by exact upd_same, ?_, o4⟩
                exact RDs.mono l5x ((rda.mono l15.to0).append (RDs.cons rd5 RDs.nil))
    · have hi2 : i = ds.length := by omega
      subst hi2
      refine .inl ⟨it1.stop g2 S2 H l2 rs2 k2, ?_⟩
      rw [List.drop_length] at o2
      unfold map1 lcFin at o2
      dsimp only at o2
      rw [List.append_nil] at o2
      exact lc_made l2 hpD rs2 hp2 rda o2
theorem pe_lcZ {elt tg it : Expr} {ifs : List Expr} {scope : Scope} {own : List (PySem.Str × Nat)} {pos : Pos} (c : Cs W Φ n E X) (hi : PI X tg it (tEvI W t E (evI T Φ li))) (ok : BlkOk X.N X.env.scope scope own)
    (hg : ∀ (s : Shared) (H : Hp) (C : Addr) (cl : List (PySem.Str × Addr)) (fp : List Addr), PG (X.blk s H scope (compEnvC scope cl C X.env) fp) tg (tPut W t))
    (ht : ∀ (s : Shared) (H : Hp) (C : Addr) (cl : List (PySem.Str × Addr)) (fp : List Addr), PTs (X.blk s H scope (compEnvC scope cl C X.env) fp) ifs (tEvB W E0 (evT T Φ lo)))
    (he : ∀ (s : Shared) (H : Hp) (C : Addr) (cl : List (PySem.Str × Addr)) (fp : List Addr), PE (X.blk s H scope (compEnvC scope cl C X.env) fp) elt (EV W E0 T Φ l))
    (hs : ∀ x, foldedSetIterable it X.env x = pure x) (hsl : ∀ j ∈ t.slots, j ∈ own.map (·.2)) : PE X (.ListComp elt [⟨tg, it, ifs, 0⟩] scope pos) (EV W E T Φ (.lc mu l t li lo (own.map (·.2)))) :=
  PE.mono (pe_lc c.hc c.nd hi ok hg ht he hs) fun σ H Q h => lc_read hsl h
/-- name = [..] on one line -/
theorem ps_lcZ {Wf i : Nat} {y : PySem.Str} {py spos : Pos} {elt tg it : Expr} {ifs : List Expr} {scope : Scope} {own : List (PySem.Str × Nat)} {pos : Pos} (c : Cs W Φ n E X) (hy : X.N[i]? = some y) (hyl : X.env.scope.names.lookup y = some .local)
    (hsw : swapsWith (.ListComp elt [⟨tg, it, ifs, 0⟩] scope pos) (some (.Name y py)) spos.line X.env = pure true) (hi : PI X tg it (tEvI W t E (evI T Φ li))) (ok : BlkOk X.N X.env.scope scope own)
    (hg : ∀ (s : Shared) (H : Hp) (C : Addr) (cl : List (PySem.Str × Addr)) (fp : List Addr), PG (X.blk s H scope (compEnvC scope cl C X.env) fp) tg (tPut W t))
    (ht : ∀ (s : Shared) (H : Hp) (C : Addr) (cl : List (PySem.Str × Addr)) (fp : List Addr), PTs (X.blk s H scope (compEnvC scope cl C X.env) fp) ifs (tEvB W E0 (evT T Φ lo)))
    (he : ∀ (s : Shared) (H : Hp) (C : Addr) (cl : List (PySem.Str × Addr)) (fp : List Addr), PE (X.blk s H scope (compEnvC scope cl C X.env) fp) elt (EV W E0 T Φ l))
    (hs : ∀ x, foldedSetIterable it X.env x = pure x) (hsl : ∀ j ∈ t.slots, j ∈ own.map (·.2)) : PS X (.Assign [.Name y py] (.ListComp elt [⟨tg, it, ifs, 0⟩] scope pos) spos) (EX W E T Φ Wf (.asg (.nm i) (.lc mu l t li lo (own.map (·.2))))) := by
  refine ⟨fun pins s σ H D I ⟨g, S, σd, rs, rst, o⟩ => (ps_setLc c.hc c.nd hy hyl hsw hi ok hg ht he hs).run pins s σ H D I ?_⟩
  simp only [ex] at o
  refine lc_read (mu := mu) hsl ⟨g, S, σd, rs, rst, OutG.mono (OutF.bs rst o) fun x H1 ⟨g1, S1, d1, le1, rs1, rst1, rd1, o1⟩ => ?_⟩
  refine o1 g1 H1 _ Le.rfl' rs1 (rst_set rst1 rd1 (by rw [I.len]; exact (List.getElem?_eq_some_iff.mp hy).1))
end
end Z
end

section
set_option Elab.async false
set_option linter.all false
set_option maxRecDepth 100000
set_option maxHeartbeats 4000000
/-! Z, part 22: zip, enumerate. -/
namespace Z
open PySem PySem.W PySem.Spec PyProof.Rows L2 PySem.SeqAt
/-- a list or a tuple that is walked -/
def SqX (K : PySem.W.Frag) (b : Bool) (H : Hp) (a : Addr) (xs : List V) : Prop := match b with | true => SqT K H a xs | false => SqL K H a xs
def SeqX (b : Bool) (h : Heap) (a : Addr) (items : Array Value) : Prop := match b with | true => h.IsTuple a items | false => h.IsList a items
def ItX (b : Bool) (h : Heap) (it a : Addr) (i : Nat) : Prop := match b with | true => h.IsTupleIter it a i | false => h.IsListIter it a i
def itO (b : Bool) (a : Addr) : Obj := match b with
  | true => { cls := .type "tuple_iterator", data := .fields #[.ref a, .int 0 0] }
  | false => { cls := .type "list_iterator", data := .fields #[.ref a, .int 0 0] }
theorem draws_X {prog : Program} {w : World} {A : Around} (hh : A.handled = none) (it a : Addr) (hne : a ≠ it) (items : Array Value) (b : Bool) : Draws prog w A it [it, a] items.size (fun i v => items[i]? = some v) (fun i h => ItX b h it a i ∧ SeqX b h a items) := by
  cases b with
  | true => exact Draws.tuple hh it a hne items
  | false => exact Draws.list hh it a hne items
theorem begins_X (b : Bool) (a : Addr) (items : Array Value) : Begins (.ref a) (itO b a) (fun h => SeqX b h a items) := by
  cases b with
  | true => exact begins_tuple a items
  | false => exact begins_list a items
theorem itX_new {b : Bool} {h : Heap} {it a : Addr} (e : h.get? it = some (itO b a)) : ItX b h it a 0 := by
  cases b with
  | true => exact ⟨_, e, rfl, rfl⟩
  | false => exact ⟨_, e, rfl, rfl⟩
theorem ItX.at {b : Bool} {h h' : Heap} {it a : Addr} {i : Nat} (x : ItX b h it a i) (k : ∀ o, h.get? it = some o → h'.get? it = some o) : ItX b h' it a i := by
  cases b with
  | true => exact Heap.IsTupleIter.at x k
  | false => exact Heap.IsListIter.at x k
theorem ItX.obj {b : Bool} {h : Heap} {it a : Addr} {i : Nat} (x : ItX b h it a i) : ∃ o, h.get? it = some o ∧ ∀ v, o.data ≠ .cell v := by
  cases b with
  | true => obtain ⟨o, e, _, d⟩ := x; exact ⟨o, e, fun v q => by rw [d] at q; cases q⟩
  | false => obtain ⟨o, e, _, d⟩ := x; exact ⟨o, e, fun v q => by rw [d] at q; cases q⟩
section
variable {X : Cx} {pins : List (Addr × Obj)} {σ : L2.St} {H : Hp} {s : Shared} {a : Addr} {xs ys : List V} {b : Bool}
theorem inv_X (I : Inv X pins σ H s) (h : SqX X.K b H a xs) : ∃ its : List Value, Vals xs its ∧ SeqX b s.heap a its.toArray ∧ a < s.heap.objs.size := by
  cases b with
  | true =>
    obtain ⟨its, r, p, _⟩ := I.tuple h
    obtain ⟨o, ho, _⟩ := id p
    exact ⟨its, r, p, Heap.lt_size ho⟩
  | false =>
    obtain ⟨its, r, p, _⟩ := I.list h
    exact ⟨its, r, p.isList, p.lt⟩
theorem inj_X (I : Inv X pins σ H s) (h : SqX X.K b H a xs) (h' : SqX X.K b H a ys) : xs = ys := by
  cases b with
  | true => exact I.tuple_inj h h'
  | false => exact I.list_inj h h'
/-- a pair, a triple that has just come: it is laid as a tuple -/
theorem came {ch : List Addr} {h' : Heap} {tk : Nat} {T : Addr} {us : List Value} {vs : List V} (I : Inv X pins σ H s) (k : ∀ b o, b ∉ ch → s.heap.get? b = some o → h'.get? b = some o) (hf : ∀ b ∈ ch, FpOk X pins H b) (hT : s.heap.objs.size ≤ T)
    (e : h'.IsTuple T us.toArray) (hz : us.length ≤ 3) (r : Vals vs us) : Inv X pins σ (upd H T (.tup vs)) { s with heap := h', toks := tk } :=
  I.turnedNew k hf hT ⟨by rw [r.length]; exact Nat.le_trans hz (by decide), us, r, e⟩
end
/-! enumerate -/
def ItE (K : PySem.W.Frag) (b : Bool) (a : Addr) : It :=
  ⟨fun i H => ∃ xs x, SqX K b H a xs ∧ xs[i]? = some x,
    fun i H v H' => ∃ T x, v = .ref T ∧ H T = none ∧ H' = upd H T (.tup [.int (i : Nat), x]) ∧ ∀ xs, SqX K b H a xs → xs[i]? = some x,
    fun i H => ∃ xs, SqX K b H a xs ∧ xs.length = i⟩
theorem turn_E {P : Program} {w : World} {K : PySem.W.Frag} {elts : List Expr} {kk : Nat} {tpos : Pos} {b : Bool} {a it e : Addr} (hei : e ≠ it) (hea : e ≠ a) (hia : a ≠ it) :
    Turn P w K (.Tuple elts kk tpos) (ItE K b a) [e, it] e (fun i h => (∃ old, IsEnum h e it ((0 : Int) + (i : Int)) old) ∧ ItX b h it a i) where
  mem := by simp
  obj := fun i h st c hc => by
    obtain ⟨⟨old, he⟩, hi⟩ := st
    rcases List.mem_cons.mp hc with rfl | hc
    · exact ⟨_, he, fun v q => nomatch q⟩
    · rw [List.mem_singleton.mp hc]
      exact hi.obj
  keep := fun i h h' st k => by
    obtain ⟨⟨old, he⟩, hi⟩ := st
    exact ⟨⟨old, k e (by simp) _ he⟩, hi.at fun o q => k it (by simp) o q⟩
  item := by
    intro X hP hw hK hc i pins s σ H E I hf st hg
    subst hP hw hK
    obtain ⟨he, hi⟩ := st
    obtain ⟨xs, x, hq, hx⟩ := hg
    obtain ⟨its, rv, p, _⟩ := inv_X I hq
    have hl := rv.length
    have hlt : i < its.toArray.size := by
      rw [List.size_toArray, ← hl]
      exact (List.getElem?_eq_some_iff.mp hx).1
    have G := GoesN.enumFrom (elts := elts) (x1 := kk) (pos := tpos) 0 (draws_X (prog := X.prog) (w := X.w) (A := X.A.in1) (I.ok.hd hc) it a hia its.toArray b) e hei (by simp [hei, hea]) (by simp)
    refine wpAny_mono (G.goes i s (fun v s2 => ∃ x H', Inv X pins σ H' s2 ∧ RelV x v ∧ (ItE X.K b a).yld i H x H' ∧ ((∃ old, IsEnum s2.heap e it ((0 : Int) + ((i + 1 : Nat) : Int)) old) ∧ ItX b s2.heap it a (i + 1)) ∧ ∀ b ∈ [e, it], H' b = none) E hlt ⟨he, hi, p⟩ fun v h' tk hY st' hk htk => ?_) (fun r s1 h => h) fun _ _ h => h
    obtain ⟨T, t, y, rfl, hT, hy, hTup⟩ := hY
    obtain ⟨u, hu, ru⟩ := rv.get hx
    have : y = u := by
      have hy' : its.toArray[i]? = some y := hy
      rw [List.getElem?_toArray, hu] at hy'
      cases hy'
      rfl
    subst this
    have hn : H T = none := I.hok.fresh hT
    have r2 : Vals [V.int ((0 : Int) + (i : Int)), x] [Value.int ((0 : Int) + (i : Int)) t, y] := .cons ⟨t, rfl⟩ (.cons ru .nil)
    have I1 := came (us := [Value.int ((0 : Int) + (i : Int)) t, y]) (tk := tk) I hk hf hT hTup (by simp) r2
    refine ⟨.ref T, _, I1, rfl, ⟨T, x, rfl, hn, by rw [Int.zero_add], fun zs hz => by rw [inj_X I hz hq]; exact hx⟩, ⟨st'.1, st'.2.1⟩, fun c hcm => ?_⟩
    have hc1 : c < s.heap.objs.size := by
      obtain ⟨old, he⟩ := he
      rcases List.mem_cons.mp hcm with rfl | hcm
      · exact Heap.lt_size he
      · rw [List.mem_singleton.mp hcm]
        obtain ⟨o, ho, _⟩ := hi.obj
        exact Heap.lt_size ho
    rw [upd_ne (Nat.ne_of_lt (Nat.lt_of_lt_of_le hc1 hT))]
    exact (hf c hcm).1
  done := by
    intro X hP hw hK hc i pins s σ H E I hf st hg
    subst hP hw hK
    obtain ⟨he, hi⟩ := st
    obtain ⟨xs, hq, hl⟩ := hg
    obtain ⟨its, rv, p, _⟩ := inv_X I hq
    have hl2 := rv.length
    have hn : its.toArray.size = i := by rw [List.size_toArray]; omega
    have G := GoesN.enumFrom (elts := elts) (x1 := kk) (pos := tpos) 0 (draws_X (prog := X.prog) (w := X.w) (A := X.A.in1) (I.ok.hd hc) it a hia its.toArray b) e hei (by simp [hei, hea]) (by simp)
    exact G.stops s (fun s1 => Inv X pins σ H s1) E (by rw [hn]; exact ⟨he, hi, p⟩) fun h' tk hk htk => I.turnedL hk hf
  self := fun A i s Q E st h => by
    obtain ⟨⟨old, he⟩, _⟩ := st
    exact wpAny_pyIter_enum he h
set_option maxHeartbeats 4000000 in
theorem meets_enum1 {v : Value} {o : Obj} {H : Heap → Prop} (B : Begins v o H) :
    Meets (Builtin.«enumerate.__new__» ⟨[.type "enumerate", v], []⟩) (fun _ R s => H s.heap ∧
      R (.ok (.ret (.ref (s.heap.push o).objs.size))) { s with heap := (s.heap.push o).push { cls := .type "enumerate", data := .fields #[.none, .bool false, .ref s.heap.objs.size, rawInt 0, .none, .none] } }) :=
  .of_wp fun prog w A R s h => by
    obtain ⟨hp, g, d, tk, os⟩ := s; obtain ⟨h1, h⟩ := h
    have hsub := sub_enumerate
    have q1 : ∀ {A' : Around} {E : Value → Shared → Prop} {Q : Value → Shared → Prop}, Q (.ref hp.objs.size) ⟨hp.push o, g, d, tk, os⟩ → wpAny (model prog w) A' (pyIter v) Q E ⟨hp, g, d, tk, os⟩ :=
      fun q => B.iter prog w _ _ ⟨hp, g, d, tk, os⟩ _ h1 q
    wp_walk using q1
    refine wpAny_stack_any fun st => wpAny_pure ?_
    split
    · rename_i c _ _ _ _ _
      cases (c == Value.type "enumerate")
      · wp_walk using q1
        exact ⟨_, rfl, h⟩
      · wp_walk using q1
        exact ⟨_, rfl, h⟩
    · wp_walk using q1
      exact ⟨_, rfl, h⟩
theorem enum_begins1 {prog : Program} {w : World} {A : Around} {E : Value → Shared → Prop} {s : Shared} {v : Value} {o : Obj} {H : Heap → Prop} {Q : Value → Shared → Prop} (B : Begins v o H) (h1 : H s.heap)
    (h : ∀ h', IsEnum h' (s.heap.objs.size + 1) s.heap.objs.size 0 .none → h'.get? s.heap.objs.size = some o → h'.objs.size = s.heap.objs.size + 2 →
      (∀ b o, s.heap.get? b = some o → h'.get? b = some o) → Q (.ref (s.heap.objs.size + 1)) { s with heap := h' }) :
    wpAny (model prog w) A (call (.type "enumerate") [v]) Q E s := by
  refine callType_new F.called_enumerate (by decide) (F.typeCall_enumerate_1 _) (F.newCall_enumerate_1 _) (fun obj => F.args_object_init_2 obj _) F.entry_enumerate_new
    (meets_enum1 B) ⟨h1, ?_⟩
  have hz : (s.heap.push o).objs.size = s.heap.objs.size + 1 := Heap.size_push ..
  show _ ∧ _
  rw [hz]
  have he : IsEnum ((s.heap.push o).push { cls := .type "enumerate", data := .fields #[.none, .bool false, .ref s.heap.objs.size, rawInt 0, .none, .none] }) (s.heap.objs.size + 1) s.heap.objs.size 0 .none := by
    have := Heap.get?_push_size (s.heap.push o) (o := { cls := .type "enumerate", data := .fields #[.none, .bool false, .ref s.heap.objs.size, rawInt 0, .none, .none] }) rfl
    rw [hz] at this; exact this
  refine ⟨⟨_, he, rfl⟩, h _ he (Heap.get?_push_of_some _ (Heap.get?_push_size _ B.free)) (by rw [Heap.size_push, hz]) fun b o x => Heap.get?_push_of_some _ (Heap.get?_push_of_some _ x)⟩
end Z
end

section
set_option Elab.async false
set_option linter.all false
set_option maxRecDepth 100000
set_option maxHeartbeats 4000000
/-! Z, part 23: zip of two and three; what is walked, by zip and enumerate. -/
namespace Z
open PySem PySem.W PySem.Spec PyProof.Rows L2 PySem.SeqAt
def ItZ2 (K : PySem.W.Frag) (b1 b2 : Bool) (a1 a2 : Addr) : It :=
  ⟨fun i H => ∃ xs ys x y, SqX K b1 H a1 xs ∧ SqX K b2 H a2 ys ∧ xs[i]? = some x ∧ ys[i]? = some y,
    fun i H v H' => ∃ T x y, v = .ref T ∧ H T = none ∧ H' = upd H T (.tup [x, y]) ∧ (∀ xs, SqX K b1 H a1 xs → xs[i]? = some x) ∧ ∀ ys, SqX K b2 H a2 ys → ys[i]? = some y,
    fun i H => ∃ xs ys, SqX K b1 H a1 xs ∧ SqX K b2 H a2 ys ∧ min xs.length ys.length = i⟩
def ItZ3 (K : PySem.W.Frag) (b1 b2 b3 : Bool) (a1 a2 a3 : Addr) : It :=
  ⟨fun i H => ∃ xs ys zs x y z, SqX K b1 H a1 xs ∧ SqX K b2 H a2 ys ∧ SqX K b3 H a3 zs ∧ xs[i]? = some x ∧ ys[i]? = some y ∧ zs[i]? = some z,
    fun i H v H' => ∃ T x y z, v = .ref T ∧ H T = none ∧ H' = upd H T (.tup [x, y, z]) ∧ (∀ xs, SqX K b1 H a1 xs → xs[i]? = some x) ∧ (∀ ys, SqX K b2 H a2 ys → ys[i]? = some y) ∧ ∀ zs, SqX K b3 H a3 zs → zs[i]? = some z,
    fun i H => ∃ xs ys zs, SqX K b1 H a1 xs ∧ SqX K b2 H a2 ys ∧ SqX K b3 H a3 zs ∧ min (min xs.length ys.length) zs.length = i⟩
theorem vals_at {its : List Value} {xs : List V} {i : Nat} {x : V} {y : Value} (rv : Vals xs its) (hx : xs[i]? = some x) (hy : its.toArray[i]? = some y) : RelV x y := by
  obtain ⟨u, hu, ru⟩ := rv.get hx
  rw [List.getElem?_toArray, hu] at hy
  cases hy
  exact ru
theorem below5 {N c : Nat} {h : Heap} {l : List Addr} (hc : c ∈ l) (k : ∀ c ∈ l, ∃ o, h.get? c = some o) : c < h.objs.size := by
  obtain ⟨o, ho⟩ := k c hc
  exact Heap.lt_size ho
theorem sub5 {N b : Nat} (h : b ∈ [N + 4, N + 3, N, N + 1]) : b ∈ [N + 4, N + 2, N + 3, N, N + 1] := by
  simp only [List.mem_cons, List.not_mem_nil, or_false] at h ⊢
  omega
theorem sub6 {N b : Nat} (h : b ∈ [N + 5, N + 4, N, N + 1, N + 2]) : b ∈ [N + 5, N + 3, N + 4, N, N + 1, N + 2] := by
  simp only [List.mem_cons, List.not_mem_nil, or_false] at h ⊢
  omega
theorem turn_Z2 {P : Program} {w : World} {K : PySem.W.Frag} {elts : List Expr} {kk : Nat} {tpos : Pos} {b1 b2 : Bool} {a1 a2 : Addr} {N : Nat} (h1 : a1 < N) (h2 : a2 < N) :
    Turn P w K (.Tuple elts kk tpos) (ItZ2 K b1 b2 a1 a2) [N + 4, N + 2, N + 3, N, N + 1] (N + 4)
      (fun i h => IsZip h (N + 4) (N + 2) (N + 3) .none ∧ IsTupOf2 h (N + 2) (.ref N) (.ref (N + 1)) ∧ (∃ x y, IsTupOf2 h (N + 3) x y) ∧ ItX b1 h N a1 i ∧ ItX b2 h (N + 1) a2 i) where
  mem := by simp
  obj := fun i h st c hc => by
    obtain ⟨hz, hTI, ⟨x, y, hTO⟩, i1, i2⟩ := st
    have e' : c = N + 4 ∨ c = N + 2 ∨ c = N + 3 ∨ c = N ∨ c = N + 1 := by simpa using hc
    rcases e' with q | q | q | q | q
    · rw [q]; exact ⟨_, hz, fun v q => nomatch q⟩
    · rw [q]; exact ⟨_, hTI, fun v q => nomatch q⟩
    · rw [q]; exact ⟨_, hTO, fun v q => nomatch q⟩
    · rw [q]; exact i1.obj
    · rw [q]; exact i2.obj
  keep := fun i h h' st k => by
    obtain ⟨hz, hTI, ⟨x, y, hTO⟩, i1, i2⟩ := st
    exact ⟨k (N + 4) (by simp) _ hz, k (N + 2) (by simp) _ hTI, ⟨x, y, k (N + 3) (by simp) _ hTO⟩, i1.at fun o q => k N (by simp) o q, i2.at fun o q => k (N + 1) (by simp) o q⟩
  item := by
    intro X hP hw hK hc i pins s σ H E I hf st hg
    subst hP hw hK
    obtain ⟨hz, hTI, hTO, i1, i2⟩ := st
    obtain ⟨xs, ys, x, y, hqx, hqy, hx, hy⟩ := hg
    obtain ⟨its, rv, p, _⟩ := inv_X I hqx
    obtain ⟨its2, rv2, p2, _⟩ := inv_X I hqy
    have hl := rv.length
    have hl2 := rv2.length
    have l1 := (List.getElem?_eq_some_iff.mp hx).1
    have l2 := (List.getElem?_eq_some_iff.mp hy).1
    have hlt : i < min its.toArray.size its2.toArray.size := by
      rw [List.size_toArray, List.size_toArray]
      omega
    have G := GoesN.zip2 (elts := elts) (x1 := kk) (pos := tpos) (zip_sep2 (N := N) (fp1 := [a1]) (fp2 := [a2]) (by simpa using h1) (by simpa using h2))
      (draws_X (prog := X.prog) (w := X.w) (A := X.A.in1) (I.ok.hd hc) N a1 (Nat.ne_of_lt h1) its.toArray b1) (draws_X (prog := X.prog) (w := X.w) (A := X.A.in1) (I.ok.hd hc) (N + 1) a2 (Nat.ne_of_lt (Nat.lt_succ_of_lt h2)) its2.toArray b2)
    have old : ∀ c ∈ [N + 4, N + 2, N + 3, N, N + 1], ∃ o, s.heap.get? c = some o := fun c hc => by
      obtain ⟨x, y, hTO⟩ := hTO
      have e' : c = N + 4 ∨ c = N + 2 ∨ c = N + 3 ∨ c = N ∨ c = N + 1 := by simpa using hc
      rcases e' with q | q | q | q | q
      · rw [q]; exact ⟨_, hz⟩
      · rw [q]; exact ⟨_, hTI⟩
      · rw [q]; exact ⟨_, hTO⟩
      · rw [q]; obtain ⟨o, ho, _⟩ := i1.obj; exact ⟨o, ho⟩
      · rw [q]; obtain ⟨o, ho, _⟩ := i2.obj; exact ⟨o, ho⟩
    refine wpAny_mono (G.goes i s (fun v s2 => ∃ x H', Inv X pins σ H' s2 ∧ RelV x v ∧ (ItZ2 X.K b1 b2 a1 a2).yld i H x H' ∧ (IsZip s2.heap (N + 4) (N + 2) (N + 3) .none ∧ IsTupOf2 s2.heap (N + 2) (.ref N) (.ref (N + 1)) ∧ (∃ x y, IsTupOf2 s2.heap (N + 3) x y) ∧ ItX b1 s2.heap N a1 (i + 1) ∧ ItX b2 s2.heap (N + 1) a2 (i + 1)) ∧
      ∀ b ∈ [N + 4, N + 2, N + 3, N, N + 1], H' b = none) E hlt ⟨hz, hTI, hTO, ⟨i1, p⟩, ⟨i2, p2⟩⟩ fun v h' tk hY st' hk htk => ?_) (fun r s1 h => h) fun _ _ h => h
    obtain ⟨T, u, u2, rfl, hT, hu, hu2, hTup⟩ := hY
    have ru := vals_at rv hx hu
    have ru2 := vals_at rv2 hy hu2
    have I1 := came (us := [u, u2]) (vs := [x, y]) (tk := tk) I (ch := [N + 4, N + 2, N + 3, N, N + 1]) (fun b o hb => hk b o (fun z => hb (sub5 z))) hf hT hTup (by simp) (.cons ru (.cons ru2 .nil))
    refine ⟨.ref T, _, I1, rfl, ⟨T, x, y, rfl, I.hok.fresh hT, rfl, fun zs hz => by rw [inj_X I hz hqx]; exact hx, fun zs hz => by rw [inj_X I hz hqy]; exact hy⟩, ⟨st'.1, st'.2.1, st'.2.2.1, st'.2.2.2.1.1, st'.2.2.2.2.1⟩, fun c hcm => ?_⟩
    rw [upd_ne (Nat.ne_of_lt (Nat.lt_of_lt_of_le (below5 (N := N) hcm old) hT))]
    exact (hf c hcm).1
  done := by
    intro X hP hw hK hc i pins s σ H E I hf st hg
    subst hP hw hK
    obtain ⟨hz, hTI, hTO, i1, i2⟩ := st
    obtain ⟨xs, ys, hqx, hqy, hl0⟩ := hg
    obtain ⟨its, rv, p, _⟩ := inv_X I hqx
    obtain ⟨its2, rv2, p2, _⟩ := inv_X I hqy
    have hl := rv.length
    have hl2 := rv2.length
    have hn : min its.toArray.size its2.toArray.size = i := by
      rw [List.size_toArray, List.size_toArray]
      omega
    have G := GoesN.zip2 (elts := elts) (x1 := kk) (pos := tpos) (zip_sep2 (N := N) (fp1 := [a1]) (fp2 := [a2]) (by simpa using h1) (by simpa using h2))
      (draws_X (prog := X.prog) (w := X.w) (A := X.A.in1) (I.ok.hd hc) N a1 (Nat.ne_of_lt h1) its.toArray b1) (draws_X (prog := X.prog) (w := X.w) (A := X.A.in1) (I.ok.hd hc) (N + 1) a2 (Nat.ne_of_lt (Nat.lt_succ_of_lt h2)) its2.toArray b2)
    exact G.stops s (fun s1 => Inv X pins σ H s1) E (by rw [hn]; exact ⟨hz, hTI, hTO, ⟨i1, p⟩, ⟨i2, p2⟩⟩) fun h' tk hk htk => I.turnedL (ch := [N + 4, N + 2, N + 3, N, N + 1]) (fun b o hb => hk b o (fun z => hb (sub5 z))) hf
  self := fun A i s Q E st h => wpAny_pyIter_zip st.1 h
theorem turn_Z3 {P : Program} {w : World} {K : PySem.W.Frag} {elts : List Expr} {kk : Nat} {tpos : Pos} {b1 b2 b3 : Bool} {a1 a2 a3 : Addr} {N : Nat} (h1 : a1 < N) (h2 : a2 < N) (h3 : a3 < N) :
    Turn P w K (.Tuple elts kk tpos) (ItZ3 K b1 b2 b3 a1 a2 a3) [N + 5, N + 3, N + 4, N, N + 1, N + 2] (N + 5)
      (fun i h => IsZip h (N + 5) (N + 3) (N + 4) .none ∧ IsTupOf3 h (N + 3) (.ref N) (.ref (N + 1)) (.ref (N + 2)) ∧ (∃ x y z, IsTupOf3 h (N + 4) x y z) ∧ ItX b1 h N a1 i ∧ ItX b2 h (N + 1) a2 i ∧ ItX b3 h (N + 2) a3 i) where
  mem := by simp
  obj := fun i h st c hc => by
    obtain ⟨hz, hTI, ⟨x, y, z, hTO⟩, i1, i2, i3⟩ := st
    have e' : c = N + 5 ∨ c = N + 3 ∨ c = N + 4 ∨ c = N ∨ c = N + 1 ∨ c = N + 2 := by simpa using hc
    rcases e' with q | q | q | q | q | q
    · rw [q]; exact ⟨_, hz, fun v q => nomatch q⟩
    · rw [q]; exact ⟨_, hTI, fun v q => nomatch q⟩
    · rw [q]; exact ⟨_, hTO, fun v q => nomatch q⟩
    · rw [q]; exact i1.obj
    · rw [q]; exact i2.obj
    · rw [q]; exact i3.obj
  keep := fun i h h' st k => by
    obtain ⟨hz, hTI, ⟨x, y, z, hTO⟩, i1, i2, i3⟩ := st
    exact ⟨k (N + 5) (by simp) _ hz, k (N + 3) (by simp) _ hTI, ⟨x, y, z, k (N + 4) (by simp) _ hTO⟩, i1.at fun o q => k N (by simp) o q, i2.at fun o q => k (N + 1) (by simp) o q, i3.at fun o q => k (N + 2) (by simp) o q⟩
  item := by
    intro X hP hw hK hc i pins s σ H E I hf st hg
    subst hP hw hK
    obtain ⟨hz, hTI, hTO, i1, i2, i3⟩ := st
    obtain ⟨xs, ys, zs, x, y, z, hqx, hqy, hqz, hx, hy, hzz⟩ := hg
    obtain ⟨its, rv, p, _⟩ := inv_X I hqx
    obtain ⟨its2, rv2, p2, _⟩ := inv_X I hqy
    obtain ⟨its3, rv3, p3, _⟩ := inv_X I hqz
    have hl := rv.length
    have hl2 := rv2.length
    have hl3 := rv3.length
    have l1 := (List.getElem?_eq_some_iff.mp hx).1
    have l2 := (List.getElem?_eq_some_iff.mp hy).1
    have l3 := (List.getElem?_eq_some_iff.mp hzz).1
    have hlt : i < min (min its.toArray.size its2.toArray.size) its3.toArray.size := by
      rw [List.size_toArray, List.size_toArray, List.size_toArray]
      omega
    have G := GoesN.zip3 (elts := elts) (x1 := kk) (pos := tpos) (zip_sep3 (N := N) (fp1 := [a1]) (fp2 := [a2]) (fp3 := [a3]) (by simpa using h1) (by simpa using h2) (by simpa using h3))
      (draws_X (prog := X.prog) (w := X.w) (A := X.A.in1) (I.ok.hd hc) N a1 (Nat.ne_of_lt h1) its.toArray b1) (draws_X (prog := X.prog) (w := X.w) (A := X.A.in1) (I.ok.hd hc) (N + 1) a2 (Nat.ne_of_lt (Nat.lt_succ_of_lt h2)) its2.toArray b2)
      (draws_X (prog := X.prog) (w := X.w) (A := X.A.in1) (I.ok.hd hc) (N + 2) a3 (Nat.ne_of_lt (Nat.lt_succ_of_lt (Nat.lt_succ_of_lt h3))) its3.toArray b3)
    have old : ∀ c ∈ [N + 5, N + 3, N + 4, N, N + 1, N + 2], ∃ o, s.heap.get? c = some o := fun c hc => by
      obtain ⟨x, y, z, hTO⟩ := hTO
      have e' : c = N + 5 ∨ c = N + 3 ∨ c = N + 4 ∨ c = N ∨ c = N + 1 ∨ c = N + 2 := by simpa using hc
      rcases e' with q | q | q | q | q | q
      · rw [q]; exact ⟨_, hz⟩
      · rw [q]; exact ⟨_, hTI⟩
      · rw [q]; exact ⟨_, hTO⟩
      · rw [q]; obtain ⟨o, ho, _⟩ := i1.obj; exact ⟨o, ho⟩
      · rw [q]; obtain ⟨o, ho, _⟩ := i2.obj; exact ⟨o, ho⟩
      · rw [q]; obtain ⟨o, ho, _⟩ := i3.obj; exact ⟨o, ho⟩
    refine wpAny_mono (G.goes i s (fun v s2 => ∃ x H', Inv X pins σ H' s2 ∧ RelV x v ∧ (ItZ3 X.K b1 b2 b3 a1 a2 a3).yld i H x H' ∧ (IsZip s2.heap (N + 5) (N + 3) (N + 4) .none ∧ IsTupOf3 s2.heap (N + 3) (.ref N) (.ref (N + 1)) (.ref (N + 2)) ∧ (∃ x y z, IsTupOf3 s2.heap (N + 4) x y z) ∧ ItX b1 s2.heap N a1 (i + 1) ∧ ItX b2 s2.heap (N + 1) a2 (i + 1) ∧ ItX b3 s2.heap (N + 2) a3 (i + 1)) ∧
      ∀ b ∈ [N + 5, N + 3, N + 4, N, N + 1, N + 2], H' b = none) E hlt ⟨hz, hTI, hTO, ⟨i1, p⟩, ⟨i2, p2⟩, ⟨i3, p3⟩⟩ fun v h' tk hY st' hk htk => ?_) (fun r s1 h => h) fun _ _ h => h
    obtain ⟨T, u, u2, u3, rfl, hT, hu, hu2, hu3, hTup⟩ := hY
    have ru := vals_at rv hx hu
    have ru2 := vals_at rv2 hy hu2
    have ru3 := vals_at rv3 hzz hu3
    have I1 := came (us := [u, u2, u3]) (vs := [x, y, z]) (tk := tk) I (ch := [N + 5, N + 3, N + 4, N, N + 1, N + 2]) (fun b o hb => hk b o (fun z => hb (sub6 z))) hf hT hTup (by simp) (.cons ru (.cons ru2 (.cons ru3 .nil)))
    refine ⟨.ref T, _, I1, rfl, ⟨T, x, y, z, rfl, I.hok.fresh hT, rfl, fun zs hz => by rw [inj_X I hz hqx]; exact hx, fun zs hz => by rw [inj_X I hz hqy]; exact hy, fun zs hz => by rw [inj_X I hz hqz]; exact hzz⟩,
      ⟨st'.1, st'.2.1, st'.2.2.1, st'.2.2.2.1.1, st'.2.2.2.2.1.1, st'.2.2.2.2.2.1⟩, fun c hcm => ?_⟩
    rw [upd_ne (Nat.ne_of_lt (Nat.lt_of_lt_of_le (below5 (N := N) hcm old) hT))]
    exact (hf c hcm).1
  done := by
    intro X hP hw hK hc i pins s σ H E I hf st hg
    subst hP hw hK
    obtain ⟨hz, hTI, hTO, i1, i2, i3⟩ := st
    obtain ⟨xs, ys, zs, hqx, hqy, hqz, hl0⟩ := hg
    obtain ⟨its, rv, p, _⟩ := inv_X I hqx
    obtain ⟨its2, rv2, p2, _⟩ := inv_X I hqy
    obtain ⟨its3, rv3, p3, _⟩ := inv_X I hqz
    have hl := rv.length
    have hl2 := rv2.length
    have hl3 := rv3.length
    have hn : min (min its.toArray.size its2.toArray.size) its3.toArray.size = i := by
      rw [List.size_toArray, List.size_toArray, List.size_toArray]
      omega
    have G := GoesN.zip3 (elts := elts) (x1 := kk) (pos := tpos) (zip_sep3 (N := N) (fp1 := [a1]) (fp2 := [a2]) (fp3 := [a3]) (by simpa using h1) (by simpa using h2) (by simpa using h3))
      (draws_X (prog := X.prog) (w := X.w) (A := X.A.in1) (I.ok.hd hc) N a1 (Nat.ne_of_lt h1) its.toArray b1) (draws_X (prog := X.prog) (w := X.w) (A := X.A.in1) (I.ok.hd hc) (N + 1) a2 (Nat.ne_of_lt (Nat.lt_succ_of_lt h2)) its2.toArray b2)
      (draws_X (prog := X.prog) (w := X.w) (A := X.A.in1) (I.ok.hd hc) (N + 2) a3 (Nat.ne_of_lt (Nat.lt_succ_of_lt (Nat.lt_succ_of_lt h3))) its3.toArray b3)
    exact G.stops s (fun s1 => Inv X pins σ H s1) E (by rw [hn]; exact ⟨hz, hTI, hTO, ⟨i1, p⟩, ⟨i2, p2⟩, ⟨i3, p3⟩⟩) fun h' tk hk htk => I.turnedL (ch := [N + 5, N + 3, N + 4, N, N + 1, N + 2]) (fun b o hb => hk b o (fun z => hb (sub6 z))) hf
  self := fun A i s Q E st h => wpAny_pyIter_zip st.1 h
end Z
end

section
set_option Elab.async false
set_option linter.all false
set_option maxRecDepth 100000
set_option maxHeartbeats 4000000
/-! Z, part 24: zip and enumerate as what is walked. -/
namespace Z
open PySem PySem.W PySem.Spec PyProof.Rows L2 PySem.SeqAt
section
variable {W : Wd} {Φ : Fn} {n : Nat} {E : WX} {X : Cx} {T : Tab} {g : Gh} {S : List O} {H : Hp} {pins : List (Addr × Obj)} {σ : L2.St} {s : Shared}
variable {ts : LTs} {a b d e tg : Expr} {args elts : List Expr} {la lb lc l : LE} {es : LEs} {pos p p2 apos tpos : Pos} {kk : Nat}
/-- a source that is walked: where it lies, and that it lies there while it is kept -/
def Src (W : Wd) (g0 : Gh) (S0 : List O) (ns : List Nat) (b : Bool) (q : Addr) (ds : List D) : Prop := ∀ g S H, Le g0 g → RS W g S H → Keeps S0 ns S → ∃ vs, SqX W.K b H q vs ∧ RDs W g ds vs
theorem walk_X {g0 : Gh} {S0 : List O} {x : D} {v : V} {ds : List D} (rd : RD W g0 x v) (e : items? S0 x = some ds) : ∃ q b, v = .ref q ∧ Src W g0 S0 x.refs b q ds := by
  obtain ⟨q, hv, h | h⟩ := walk_items rd e
  · exact ⟨q, false, hv, h⟩
  · exact ⟨q, true, hv, h⟩
theorem Src.sub {g0 : Gh} {S0 : List O} {ns ms : List Nat} {b : Bool} {q : Addr} {ds : List D} (h : Src W g0 S0 ns b q ds) (hs : ∀ n ∈ ns, n ∈ ms) : Src W g0 S0 ms b q ds := fun g S H l rs k => h g S H l rs fun n hn => k n (hs n hn)
theorem RDs.at {ds : List D} {vs : List V} {i : Nat} (r : RDs W g ds vs) (hi : i < ds.length) : ∃ v, vs[i]? = some v ∧ RD W g ds[i] v := r.get (List.getElem?_eq_getElem hi)
theorem enm_get : ∀ (ds : List D) (k i : Nat), (enmL k ds)[i]? = (ds[i]?).map fun d => D.tup [.int ((k + i : Nat) : Int), d]
  | [], _, _ => by simp [enmL]
  | d :: ds, k, 0 => by simp [enmL]
  | d :: ds, k, i + 1 => by
    show (enmL (k + 1) ds)[i]? = _
    rw [enm_get ds (k + 1) i, show k + 1 + i = k + (i + 1) by omega]
    rfl
theorem enm_len : ∀ (ds : List D) (k : Nat), (enmL k ds).length = ds.length
  | [], _ => rfl
  | d :: ds, k => by show (enmL (k + 1) ds).length + 1 = _; rw [enm_len ds]; rfl
theorem zip2_len : ∀ (xs ys : List D), (zip2 xs ys).length = min xs.length ys.length
  | [], _ => by simp [zip2]
  | x :: xs, [] => by simp [zip2]
  | x :: xs, y :: ys => by show (zip2 xs ys).length + 1 = _; rw [zip2_len xs ys]; simp only [List.length_cons]; omega
theorem zip2_get : ∀ (xs ys : List D) (i : Nat) (d : D), (zip2 xs ys)[i]? = some d → ∃ x y, xs[i]? = some x ∧ ys[i]? = some y ∧ d = .tup [x, y]
  | [], _, _, _, h => by simp [zip2] at h
  | x :: xs, [], _, _, h => by simp [zip2] at h
  | x :: xs, y :: ys, 0, d, h => by
    simp [zip2] at h
    exact ⟨x, y, rfl, rfl, h.symm⟩
  | x :: xs, y :: ys, i + 1, d, h => zip2_get xs ys i d (by simpa [zip2] using h)
theorem zip3_len : ∀ (xs ys zs : List D), (zip3 xs ys zs).length = min (min xs.length ys.length) zs.length
  | [], _, _ => by simp [zip3]
  | x :: xs, [], _ => by simp [zip3]
  | x :: xs, y :: ys, [] => by simp [zip3]
  | x :: xs, y :: ys, z :: zs => by show (zip3 xs ys zs).length + 1 = _; rw [zip3_len xs ys zs]; simp only [List.length_cons]; omega
theorem zip3_get : ∀ (xs ys zs : List D) (i : Nat) (d : D), (zip3 xs ys zs)[i]? = some d → ∃ x y z, xs[i]? = some x ∧ ys[i]? = some y ∧ zs[i]? = some z ∧ d = .tup [x, y, z]
  | [], _, _, _, _, h => by simp [zip3] at h
  | x :: xs, [], _, _, _, h => by simp [zip3] at h
  | x :: xs, y :: ys, [], _, _, h => by simp [zip3] at h
  | x :: xs, y :: ys, z :: zs, 0, d, h => by
    simp [zip3] at h
    exact ⟨x, y, z, rfl, rfl, rfl, h.symm⟩
  | x :: xs, y :: ys, z :: zs, i + 1, d, h => zip3_get xs ys zs i d (by simpa [zip3] using h)
theorem rs_came (rs : RS W g S H) {ds : List D} {vs : List V} {T : Addr} (hT : H T = none) (r : RDs W g ds vs) : ∃ g', Le g g' ∧ RS W g' S (upd H T (.tup vs)) ∧ RI W g' (.tup ds) (.ref T) := by
  obtain ⟨rs', l⟩ := rs.laid (o := .tup vs) hT
  exact ⟨_, l, rs', .inr ⟨ds, T, vs, rfl, rfl, .inl (.inl upd_same), r.mono l.to0⟩⟩
theorem it_E {g0 : Gh} {S0 : List O} {q : Addr} {b : Bool} {ds : List D} {ns : List Nat} (h : Src W g0 S0 ns b q ds) : Iters W (.tp ts) g0 S0 (ItE W.K b q) (enmL 0 ds) ns where
  go := fun g S H i l rs k hi => by
    obtain ⟨vs, h1, h2⟩ := h g S H l rs k
    rw [enm_len] at hi
    obtain ⟨v, hv, _⟩ := h2.at hi
    exact ⟨vs, v, h1, hv⟩
  yld := fun g S H i x H' d l rs k hd hy => by
    obtain ⟨vs, h1, h2⟩ := h g S H l rs k
    rw [enm_get, Nat.zero_add] at hd
    obtain ⟨d', hd', rfl⟩ := Option.map_eq_some_iff.mp hd
    obtain ⟨T, x', rfl, hT, rfl, hx⟩ := hy
    obtain ⟨v, e, r⟩ := h2.get hd'
    have := hx vs h1
    rw [e] at this
    cases this
    exact rs_came rs hT (RDs.cons rfl (RDs.cons r RDs.nil))
  stop := fun g S H l rs k => by
    obtain ⟨vs, h1, h2⟩ := h g S H l rs k
    exact ⟨vs, h1, by rw [enm_len, h2.length]⟩
theorem it_Z2 {g0 : Gh} {S0 : List O} {q1 q2 : Addr} {b1 b2 : Bool} {xs ys : List D} {ns : List Nat} (h : Src W g0 S0 ns b1 q1 xs) (h' : Src W g0 S0 ns b2 q2 ys) : Iters W (.tp ts) g0 S0 (ItZ2 W.K b1 b2 q1 q2) (zip2 xs ys) ns where
  go := fun g S H i l rs k hi => by
    obtain ⟨vs, h1, h2⟩ := h g S H l rs k
    obtain ⟨us, h3, h4⟩ := h' g S H l rs k
    rw [zip2_len] at hi
    obtain ⟨v, hv, _⟩ := h2.at (i := i) (by omega)
    obtain ⟨u, hu, _⟩ := h4.at (i := i) (by omega)
    exact ⟨vs, us, v, u, h1, h3, hv, hu⟩
  yld := fun g S H i x H' d l rs k hd hy => by
    obtain ⟨vs, h1, h2⟩ := h g S H l rs k
    obtain ⟨us, h3, h4⟩ := h' g S H l rs k
    obtain ⟨dx, dy, e1, e2, rfl⟩ := zip2_get _ _ _ _ hd
    obtain ⟨T, x', y', rfl, hT, rfl, hx, hy⟩ := hy
    obtain ⟨v, e, r⟩ := h2.get e1
    obtain ⟨u, e', r'⟩ := h4.get e2
    have k1 := hx vs h1
    have k2 := hy us h3
    rw [e] at k1
    rw [e'] at k2
    cases k1; cases k2
    exact rs_came rs hT (RDs.cons r (RDs.cons r' RDs.nil))
  stop := fun g S H l rs k => by
    obtain ⟨vs, h1, h2⟩ := h g S H l rs k
    obtain ⟨us, h3, h4⟩ := h' g S H l rs k
    exact ⟨vs, us, h1, h3, by rw [zip2_len, h2.length, h4.length]⟩
theorem it_Z3 {g0 : Gh} {S0 : List O} {q1 q2 q3 : Addr} {b1 b2 b3 : Bool} {xs ys zs : List D} {ns : List Nat} (h : Src W g0 S0 ns b1 q1 xs) (h' : Src W g0 S0 ns b2 q2 ys) (h'' : Src W g0 S0 ns b3 q3 zs) : Iters W (.tp ts) g0 S0 (ItZ3 W.K b1 b2 b3 q1 q2 q3) (zip3 xs ys zs) ns where
  go := fun g S H i l rs k hi => by
    obtain ⟨vs, h1, h2⟩ := h g S H l rs k
    obtain ⟨us, h3, h4⟩ := h' g S H l rs k
    obtain ⟨ws, h5, h6⟩ := h'' g S H l rs k
    rw [zip3_len] at hi
    obtain ⟨v, hv, _⟩ := h2.at (i := i) (by omega)
    obtain ⟨u, hu, _⟩ := h4.at (i := i) (by omega)
    obtain ⟨w, hw, _⟩ := h6.at (i := i) (by omega)
    exact ⟨vs, us, ws, v, u, w, h1, h3, h5, hv, hu, hw⟩
  yld := fun g S H i x H' d l rs k hd hy => by
    obtain ⟨vs, h1, h2⟩ := h g S H l rs k
    obtain ⟨us, h3, h4⟩ := h' g S H l rs k
    obtain ⟨ws, h5, h6⟩ := h'' g S H l rs k
    obtain ⟨dx, dy, dz, e1, e2, e3, rfl⟩ := zip3_get _ _ _ _ _ hd
    obtain ⟨T, x', y', z', rfl, hT, rfl, hx, hy, hz⟩ := hy
    obtain ⟨v, e, r⟩ := h2.get e1
    obtain ⟨u, e', r'⟩ := h4.get e2
    obtain ⟨w, e'', r''⟩ := h6.get e3
    have k1 := hx vs h1
    have k2 := hy us h3
    have k3 := hz ws h5
    rw [e] at k1
    rw [e'] at k2
    rw [e''] at k3
    cases k1; cases k2; cases k3
    exact rs_came rs hT (RDs.cons r (RDs.cons r' (RDs.cons r'' RDs.nil)))
  stop := fun g S H l rs k => by
    obtain ⟨vs, h1, h2⟩ := h g S H l rs k
    obtain ⟨us, h3, h4⟩ := h' g S H l rs k
    obtain ⟨ws, h5, h6⟩ := h'' g S H l rs k
    exact ⟨vs, us, ws, h1, h3, h5, by rw [zip3_len, h2.length, h4.length, h6.length]⟩
/-! the rules -/
theorem callT (c : Cs W Φ n E X) {t : String} {Q : Value → Shared → Prop} {Ee : Value → Shared → Prop} (hn : noStars args = true) (h : wpAny (model X.prog X.w) X.A (spliced (backTo pos (starEach args X.env))) (fun vs s₁ => wpAny (model X.prog X.w) X.A (call (.type t) vs) Q Ee s₁) Ee s) :
    wpAny (model X.prog X.w) X.A (callWith pos (.type t) [] (backTo pos (starEach args X.env)) []) Q Ee s := PySem.callWith_type (noStars_any hn) (evalArgs_sp hn h)
theorem pi_enmZ (c : Cs W Φ n E X) (hg : Gl X "enumerate") (hm : X.mg "enumerate" = none) (ha : PE X a (EV W E T Φ la)) (hs : isStar a = false) : PI X (.Tuple elts kk tpos) (.Call (.Name "enumerate" p) [a] [] pos) (tEvI W (.tp ts) E (evI T Φ (.enm la))) := by
  refine ⟨fun pins s σ H R I ⟨g, S, σd, rs, rst, o⟩ => ?_⟩
  simp only [evI] at o
  have hn : noStars [a] = true := by unfold noStars; rw [List.all_cons, hs]; rfl
  have o' : OutI W (.tp ts) (fun c d H => E c d σ H) g ((evs T Φ (.cons la .nil) σd S).bind fun ds S => match ds with | [x] => (match items? S x with | some xs => .ok (enmL 0 xs, x.refs) S | none => .bad) | _ => .bad) R := by
    simp only [evs]
    cases hx : ev T Φ la σd S with
    | ok x S1 => rw [hx] at o; exact o
    | err e S1 => rw [hx] at o; exact o
    | bad => rw [hx] at o; exact o
  refine Call_ (ld_blt I hg hm boot_enumerate (callT c hn (thn ((pa_consZ ha pa_nilZ hs).run pos pins s σ H _ I ⟨g, S, σd, rs, rst, evI_args o'⟩) fun us s1 ⟨vs, H1, I1, r1, g1, S1, ds, l1, rs1, rd, o1, er⟩ => ?_)))
  obtain ⟨x, rfl⟩ := evs_one er
  obtain ⟨v, rfl, rv⟩ := rd.one
  dsimp only at o1
  split at o1
  · rename_i xs hi
    obtain ⟨q, b, rfl, src⟩ := walk_X rv hi
    cases r1 with
    | cons r rr =>
      cases rr
      cases r
      obtain ⟨zs, hq, _⟩ := src g1 S1 H1 Le.rfl' rs1 (fun _ _ => rfl)
      obtain ⟨its, rv2, hseq, hlt⟩ := inv_X I1 (by rw [c.K]; exact hq)
      refine enum_begins1 (begins_X b q its.toArray) hseq fun h' he hit hsz hk => wpAny_pyIter_enum he ?_
      have I2 : Inv X pins σ H1 { s1 with heap := h' } := I1.kept (t' := s1.toks) hk
      refine ⟨s1.heap.objs.size + 1, [s1.heap.objs.size + 1, s1.heap.objs.size], _, ItE X.K b q, H1, rfl, I2, turn_E (Nat.succ_ne_self _) (Nat.ne_of_gt (Nat.lt_succ_of_lt hlt)) (Nat.ne_of_lt hlt), ⟨⟨.none, he⟩, itX_new hit⟩, fun b hb => ?_, by rw [c.K]; exact o1 g1 H1 _ Le.rfl' rs1 (it_E src)⟩
      have hle : s1.heap.objs.size ≤ b := by
        rcases List.mem_cons.mp hb with z | z
        · rw [z]; exact Nat.le_add_right _ _
        · rw [List.mem_singleton.mp z]; exact Nat.le_refl _
      exact I1.fpOk hle (I1.hok.fresh hle)
  · exact o1.elim
theorem pi_zip2Z (c : Cs W Φ n E X) (hg : Gl X "zip") (hm : X.mg "zip" = none) (ha : PE X a (EV W E T Φ la)) (hb : PE X b (EV W E T Φ lb)) (hs : isStar a = false) (hs2 : isStar b = false) :
    PI X (.Tuple elts kk tpos) (.Call (.Name "zip" p) [a, b] [] pos) (tEvI W (.tp ts) E (evI T Φ (.zip (.cons la (.cons lb .nil))))) := by
  refine ⟨fun pins s σ H R I ⟨g, S, σd, rs, rst, o⟩ => ?_⟩
  unfold evI at o
  have hn : noStars [a, b] = true := by unfold noStars; rw [List.all_cons, hs, List.all_cons, hs2]; rfl
  refine Call_ (ld_blt I hg hm PyProof.Rows.boot_zip (callT c hn (thn ((pa_consZ ha (pa_consZ hb pa_nilZ hs2) hs).run pos pins s σ H _ I ⟨g, S, σd, rs, rst, evI_args o⟩) fun us s1 ⟨vs, H1, I1, r1, g1, S1, ds, l1, rs1, rd, o1, er⟩ => ?_)))
  obtain ⟨x, y, rfl⟩ := evs_two er
  obtain ⟨v, w, rfl, rv, rw'⟩ := rd.two
  cases h1 : items? S1 x with
  | none => rw [show zipD S1 [x, y] = none by simp [zipD, h1]] at o1; exact o1.elim
  | some xs =>
    cases h2 : items? S1 y with
    | none => rw [show zipD S1 [x, y] = none by simp [zipD, h1, h2]] at o1; exact o1.elim
    | some ys =>
        rw [show zipD S1 [x, y] = some (zip2 xs ys) by simp [zipD, h1, h2]] at o1
        obtain ⟨q, b, rfl, src⟩ := walk_X rv h1
        obtain ⟨q', b', rfl, src'⟩ := walk_X rw' h2
        have hc := (src.sub (ms := [x, y].flatMap D.refs) fun n hn => by simp [hn])
        have hc' := (src'.sub (ms := [x, y].flatMap D.refs) fun n hn => by simp [hn])
        cases r1 with
        | cons r rr =>
          cases rr with
          | cons r' rr =>
            cases rr
            cases r
            cases r'
            obtain ⟨zs, hq, _⟩ := src g1 S1 H1 Le.rfl' rs1 (fun _ _ => rfl)
            obtain ⟨its, _, hseq, hlt⟩ := inv_X I1 (by rw [c.K]; exact hq)
            obtain ⟨zs', hq', _⟩ := src' g1 S1 H1 Le.rfl' rs1 (fun _ _ => rfl)
            obtain ⟨its', _, hseq', hlt'⟩ := inv_X I1 (by rw [c.K]; exact hq')
            refine zip_begins2 (begins_X b q its.toArray) (begins_X b' q' its'.toArray) hseq hseq' fun h' hz hTI hTO h1 h2 hsz hk => wpAny_pyIter_zip hz ?_
            have I2 : Inv X pins σ H1 { s1 with heap := h' } := I1.kept (t' := s1.toks) hk
            refine ⟨s1.heap.objs.size + 4, [s1.heap.objs.size + 4, s1.heap.objs.size + 2, s1.heap.objs.size + 3, s1.heap.objs.size, s1.heap.objs.size + 1], _, ItZ2 X.K b b' q q', H1, rfl, I2, turn_Z2 hlt hlt', ⟨hz, hTI, ⟨_, _, hTO⟩, itX_new h1, itX_new h2⟩, fun c hcm => ?_, by rw [c.K]; exact o1 g1 H1 _ Le.rfl' rs1 (it_Z2 hc hc')⟩
            have hle : s1.heap.objs.size ≤ c := by
              simp only [List.mem_cons, List.not_mem_nil, or_false] at hcm
              rcases hcm with z | z | z | z | z <;> (rw [z]; first | exact Nat.le_refl _ | exact Nat.le_add_right _ _)
            exact I1.fpOk hle (I1.hok.fresh hle)
theorem pi_zip3Z (c : Cs W Φ n E X) (hg : Gl X "zip") (hm : X.mg "zip" = none) (ha : PE X a (EV W E T Φ la)) (hb : PE X b (EV W E T Φ lb)) (hd : PE X d (EV W E T Φ lc)) (hs : isStar a = false) (hs2 : isStar b = false) (hs3 : isStar d = false) :
    PI X (.Tuple elts kk tpos) (.Call (.Name "zip" p) [a, b, d] [] pos) (tEvI W (.tp ts) E (evI T Φ (.zip (.cons la (.cons lb (.cons lc .nil)))))) := by
  refine ⟨fun pins s σ H R I ⟨g, S, σd, rs, rst, o⟩ => ?_⟩
  unfold evI at o
  have hn : noStars [a, b, d] = true := by unfold noStars; rw [List.all_cons, hs, List.all_cons, hs2, List.all_cons, hs3]; rfl
  refine Call_ (ld_blt I hg hm PyProof.Rows.boot_zip (callT c hn (thn ((pa_consZ ha (pa_consZ hb (pa_consZ hd pa_nilZ hs3) hs2) hs).run pos pins s σ H _ I ⟨g, S, σd, rs, rst, evI_args o⟩) fun us s1 ⟨vs, H1, I1, r1, g1, S1, ds, l1, rs1, rd, o1, er⟩ => ?_)))
  obtain ⟨x, y, z, rfl⟩ := evs_three er
  obtain ⟨v, w, u, rfl, rv, rw', ru⟩ := rd.three
  cases h1 : items? S1 x with
  | none => rw [show zipD S1 [x, y, z] = none by simp [zipD, h1]] at o1; exact o1.elim
  | some xs =>
    cases h2 : items? S1 y with
    | none => rw [show zipD S1 [x, y, z] = none by simp [zipD, h1, h2]] at o1; exact o1.elim
    | some ys =>
      cases h3 : items? S1 z with
      | none => rw [show zipD S1 [x, y, z] = none by simp [zipD, h1, h2, h3]] at o1; exact o1.elim
      | some zs =>
        rw [show zipD S1 [x, y, z] = some (zip3 xs ys zs) by simp [zipD, h1, h2, h3]] at o1
        obtain ⟨q, b, rfl, src⟩ := walk_X rv h1
        obtain ⟨q', b', rfl, src'⟩ := walk_X rw' h2
        obtain ⟨q'', b'', rfl, src''⟩ := walk_X ru h3
        have hc := (src.sub (ms := [x, y, z].flatMap D.refs) fun n hn => by simp [hn])
        have hc' := (src'.sub (ms := [x, y, z].flatMap D.refs) fun n hn => by simp [hn])
        have hc'' := (src''.sub (ms := [x, y, z].flatMap D.refs) fun n hn => by simp [hn])
        cases r1 with
        | cons r rr =>
          cases rr with
          | cons r' rr =>
            cases rr with
            | cons r'' rr =>
              cases rr
              cases r
              cases r'
              cases r''
              obtain ⟨zs, hq, _⟩ := src g1 S1 H1 Le.rfl' rs1 (fun _ _ => rfl)
              obtain ⟨its, _, hseq, hlt⟩ := inv_X I1 (by rw [c.K]; exact hq)
              obtain ⟨zs', hq', _⟩ := src' g1 S1 H1 Le.rfl' rs1 (fun _ _ => rfl)
              obtain ⟨its', _, hseq', hlt'⟩ := inv_X I1 (by rw [c.K]; exact hq')
              obtain ⟨zs'', hq'', _⟩ := src'' g1 S1 H1 Le.rfl' rs1 (fun _ _ => rfl)
              obtain ⟨its'', _, hseq'', hlt''⟩ := inv_X I1 (by rw [c.K]; exact hq'')
              refine zip_begins3 (begins_X b q its.toArray) (begins_X b' q' its'.toArray) (begins_X b'' q'' its''.toArray) hseq hseq' hseq'' fun h' hz hTI hTO h1 h2 h3 hsz hk => wpAny_pyIter_zip hz ?_
              have I2 : Inv X pins σ H1 { s1 with heap := h' } := I1.kept (t' := s1.toks) hk
              refine ⟨s1.heap.objs.size + 5, [s1.heap.objs.size + 5, s1.heap.objs.size + 3, s1.heap.objs.size + 4, s1.heap.objs.size, s1.heap.objs.size + 1, s1.heap.objs.size + 2], _, ItZ3 X.K b b' b'' q q' q'', H1, rfl, I2, turn_Z3 hlt hlt' hlt'', ⟨hz, hTI, ⟨_, _, _, hTO⟩, itX_new h1, itX_new h2, itX_new h3⟩, fun c hcm => ?_, by rw [c.K]; exact o1 g1 H1 _ Le.rfl' rs1 (it_Z3 hc hc' hc'')⟩
              have hle : s1.heap.objs.size ≤ c := by
                simp only [List.mem_cons, List.not_mem_nil, or_false] at hcm
                rcases hcm with z | z | z | z | z | z <;> (rw [z]; first | exact Nat.le_refl _ | exact Nat.le_add_right _ _)
              exact I1.fpOk hle (I1.hok.fresh hle)
end
end Z
end

section
set_option Elab.async false
set_option linter.all false
set_option maxRecDepth 100000
set_option maxHeartbeats 4000000
/-! Z, part 25a: dict comprehensions whose stores are told by a relation of one's own. -/
namespace Z
open PySem PySem.W PySem.Spec PyProof.Rows L2 PySem.SeqAt
/-- storing a key and a value into the dict at D: what follows -/
abbrev DSt := Addr → V → V → Hp → (Hp → Prop) → Prop
/-- the reading: as tDc, the store told by st -/
def tDcS (st : DSt) (wi : TI) (g : TG) (tt : TT) (tk tv : TE) (vs : List Nat) : TE := fun σ H Q => wi σ H fun J Ha => ∀ Dp, Ha Dp = none →
  ∃ Y : Nat → Nat → Hp → Prop, (∃ m, Y 0 m (upd Ha Dp (.dK []))) ∧ ∀ i m Hb, Y i m Hb → (J.stop i Hb ∧ Q (.ref Dp) Hb) ∨
    (J.go i Hb ∧ ∃ Nx : Hp → Prop, (∀ Hc, Nx Hc → ∃ m', m' < m ∧ Y (i + 1) m' Hc) ∧ ∀ x Hc, J.yld i Hb x Hc → g x (L2.wipe σ vs) Hc fun σa Hd => L2.wipe σa vs = L2.wipe σ vs ∧
      tt σa Hd fun b He => if b = true then tk σa He fun ky Hf => tv σa Hf fun vl Hg => st Dp ky vl Hg Nx else Nx He)
/-- the store may be done so in a context -/
def DStOk (X : Cx) (st : DSt) : Prop := ∀ (pins : List (Addr × Obj)) (σ : L2.St) (H : Hp) (s : Shared) (Dp : Addr) (ky vl : V) (u r : Value) (N : Hp → Prop) (E : Value → Shared → Prop),
  Inv X pins σ H s → RelV ky u → RelV vl r → st Dp ky vl H N → wpAny (model X.prog X.w) X.A (dictSet Dp u r) (fun _ s' => ∃ H', Inv X pins σ H' s' ∧ N H') E s
section
variable {X : Cx}
theorem dcS_eval {st : DSt} {pins : List (Addr × Obj)} {s : Shared} {σ : L2.St} {H : Hp} {Q : VK} {kx vx tg it : Expr} {ifs : List Expr} {scope : Scope} {own : List (PySem.Str × Nat)} {pos pos' : Pos} {wi : TI} {g : TG} {tt : TT} {tk tv : TE} {Qf : Value → Shared → Prop} {use : Option (Value → Sem Unit)}
    (calm : X.calm = true) (nd : X.N.Nodup) (I : Inv X pins σ H s) (walk : PI X tg it wi) (blk : BlkOk X.N X.env.scope scope own)
    (aim : ∀ (s : Shared) (H : Hp) (C : Addr) (cl : List (PySem.Str × Addr)) (fp : List Addr), PG (X.blk s H scope (compEnvC scope cl C X.env) fp) tg g)
    (tests : ∀ (s : Shared) (H : Hp) (C : Addr) (cl : List (PySem.Str × Addr)) (fp : List Addr), PTs (X.blk s H scope (compEnvC scope cl C X.env) fp) ifs tt)
    (keyE : ∀ (s : Shared) (H : Hp) (C : Addr) (cl : List (PySem.Str × Addr)) (fp : List Addr), PE (X.blk s H scope (compEnvC scope cl C X.env) fp) kx tk)
    (valE : ∀ (s : Shared) (H : Hp) (C : Addr) (cl : List (PySem.Str × Addr)) (fp : List Addr), PE (X.blk s H scope (compEnvC scope cl C X.env) fp) vx tv)
    (sto : ∀ (s : Shared) (H : Hp) (C : Addr) (cl : List (PySem.Str × Addr)) (fp : List Addr), DStOk (X.blk s H scope (compEnvC scope cl C X.env) fp) st)
    (nofold : ∀ x, foldedSetIterable it X.env x = pure x) (read : tDcS st wi g tt tk tv (own.map (·.2)) σ H Q)
    (post : ∀ Dp C s' m H', Inv X pins σ H' s' → Q (.ref Dp) H' → s'.heap.Ns C m → FpOk X pins H' C → compPost (model X.prog X.w) X.A X.xe use Qf (.ref Dp) C (.ok .next) s') :
    wpAny (model X.prog X.w) X.A (comprehension (.DictComp kx vx [⟨tg, it, ifs, 0⟩] scope pos) scope X.env pos' newDict false (eval it X.env) use) Qf X.xe s := by
  have caught : ∀ y ∈ scope.names, y.2 = .free → ∃ c, X.env.cells.lookup y.1 = some c := fun y hy e => (blk.free y hy e).elim (fun k => I.ok.has _ (.inl k)) fun k => I.ok.has _ (.inr k)
  refine wpAny_comprehension_free (use := use) rfl nofold (closure_ok caught) blk.kind (fun y hy e => by rw [blk.uniq y hy, e]) (thn (walk.run pins s σ H _ I read) fun _ sa ha => thn ha fun _ sb hb => ?_)
  obtain ⟨ia, fp, tn, J, Hb, rfl, Ib, T, tnb, fpb, cont⟩ := hb
  refine wpAny_newObj_type (newEnv_comp ?_)
  obtain ⟨Dp, hDp⟩ : ∃ Dp, Dp = sb.heap.objs.size := ⟨_, rfl⟩
  have freshD : Hb Dp = none := Ib.hok.fresh (Nat.le_of_eq hDp.symm)
  obtain ⟨Y, ⟨m0, y0⟩, turn⟩ := cont Dp freshD
  obtain ⟨sc, hsc⟩ : ∃ sc : Shared, sc = { sb with heap := sb.heap.push { cls := .type "dict", data := .dict #[] } } := ⟨_, rfl⟩
  have heapC : sc.heap = sb.heap.push { cls := .type "dict", data := .dict #[] } := by rw [hsc]
  have Ic : Inv X pins σ (upd Hb Dp (.dK [])) sc := by
    rw [hsc, hDp]
    exact Ib.laid (t' := sb.toks) (fun b o e => Heap.get?_push_of_some _ e) (Nat.le_refl _) (dk_empty sb.heap Ib.big)
  have small : ∀ b ∈ fp, b < sb.heap.objs.size := fun b hb => let ⟨_, e, _⟩ := T.obj _ _ tnb b hb; Heap.lt_size e
  have fpc : ∀ b ∈ fp, FpOk X pins (upd Hb Dp (.dK [])) b ∧ b < sc.heap.objs.size := fun b hb => by
    have lt := small b hb
    refine ⟨⟨?_, (fpb b hb).2⟩, by rw [heapC, Heap.size_push]; exact Nat.lt_succ_of_lt lt⟩
    rw [upd_ne (by rw [hDp]; exact Nat.ne_of_lt lt)]
    exact (fpb b hb).1
  have tnc : tn 0 sc.heap := T.keep _ _ _ tnb fun b _ o e => by rw [heapC]; exact Heap.get?_push_of_some _ e
  have Id := block_start Ic blk nd fpc
  have aim := aim sc (upd Hb Dp (.dK [])) sc.heap.objs.size (cellsFrom (sc.heap.objs.size + 1) scope.names (cloFrom X.env.cells scope.names [])) fp
  have tests := tests sc (upd Hb Dp (.dK [])) sc.heap.objs.size (cellsFrom (sc.heap.objs.size + 1) scope.names (cloFrom X.env.cells scope.names [])) fp
  have keyE := keyE sc (upd Hb Dp (.dK [])) sc.heap.objs.size (cellsFrom (sc.heap.objs.size + 1) scope.names (cloFrom X.env.cells scope.names [])) fp
  have valE := valE sc (upd Hb Dp (.dK [])) sc.heap.objs.size (cellsFrom (sc.heap.objs.size + 1) scope.names (cloFrom X.env.cells scope.names [])) fp
  have sto := sto sc (upd Hb Dp (.dK [])) sc.heap.objs.size (cellsFrom (sc.heap.objs.size + 1) scope.names (cloFrom X.env.cells scope.names [])) fp
  show codeAny _ _ (.compStart (.DictComp kx vx [⟨tg, it, ifs, 0⟩] scope pos) 0 (.ref ia) (.ref sb.heap.objs.size) (compEnvC scope (cellsFrom ((sb.heap.push { cls := .type "dict", data := .dict #[] }).objs.size + 1) scope.names (cloFrom X.env.cells scope.names [])) (sb.heap.push { cls := .type "dict", data := .dict #[] }).objs.size X.env))
    (compPost (model X.prog X.w) X.A X.xe use Qf (.ref sb.heap.objs.size) (sb.heap.push { cls := .type "dict", data := .dict #[] }).objs.size) { sb with heap := pushCells ((sb.heap.push { cls := .type "dict", data := .dict #[] }).push { cls := .type "dict", data := .dict #[] }) scope.names }
  rw [← hDp, ← heapC, show ({ sb with heap := pushCells (sc.heap.push { cls := .type "dict", data := .dict #[] }) scope.names } : Shared) = { sc with heap := pushCells (sc.heap.push { cls := .type "dict", data := .dict #[] }) scope.names } by rw [hsc]]
  obtain ⟨ce, hce⟩ : ∃ ce, ce = compEnvC scope (cellsFrom (sc.heap.objs.size + 1) scope.names (cloFrom X.env.cells scope.names [])) sc.heap.objs.size X.env := ⟨_, rfl⟩
  rw [← hce] at Id aim tests keyE valE sto ⊢
  have locC : ce.locals = sc.heap.objs.size := by rw [hce]; rfl
  obtain ⟨Hc, hHc⟩ : ∃ Hc, Hc = upd Hb Dp (.dK []) := ⟨_, rfl⟩
  rw [← hHc] at Ic Id aim tests keyE valE sto y0 fpc
  obtain ⟨sd, hsd⟩ : ∃ sd : Shared, sd = { sc with heap := pushCells (sc.heap.push { cls := .type "dict", data := .dict #[] }) scope.names } := ⟨_, rfl⟩
  rw [← hsd] at Id ⊢
  have tnd : tn 0 sd.heap := T.keep _ _ _ tnc fun b _ o e => by rw [hsd]; exact pushCells_keeps _ _ _ _ (Heap.get?_push_of_some _ e)
  have fpN : ∀ {σ' : L2.St} {H' : Hp} {s' : Shared}, Inv (X.blk sc Hc scope ce fp) [] σ' H' s' → (∀ b ∈ fp, H' b = none) → ∀ b ∈ fp, FpOk (X.blk sc Hc scope ce fp) [] H' b := fun {σ' H' s'} I' hn b hb =>
    ⟨hn b hb, (I'.ok.exf b hb).1, I'.ok.exfs b hb, .inl hb, fun x c e => (I'.ok.exf b hb).2 x c e, fun p hp => absurd (show p ∈ ([] : List (Addr × Obj)) ++ [] from hp) (by simp)⟩
  have rounds : codeAny (model X.prog X.w) X.A (.compLoop (.DictComp kx vx [⟨tg, it, ifs, 0⟩] scope pos) 0 (.ref ia) (.ref Dp) ce) (compPost (model X.prog X.w) X.A X.xe use Qf (.ref Dp) sc.heap.objs.size) sd := by
    refine compLoop_anyD (fun n s' => ∃ i H', Inv (X.blk sc Hc scope ce fp) [] (L2.wipe σ (own.map (·.2))) H' s' ∧ tn i s'.heap ∧ (∀ b ∈ fp, H' b = none) ∧ Y i n H') (fun n se hse => ?_) m0 ⟨0, Hc, Id, tnd, fun b hb => (fpc b hb).1.1, y0⟩
    obtain ⟨i, He, Ie, tne, fe, ye⟩ := hse
    rcases turn i n He ye with ⟨stop, done⟩ | ⟨go, Nx, hNx, step⟩
    · refine thnF (T.done (X.blk sc Hc scope ce fp) rfl rfl rfl calm i [] se _ He (fun _ _ => False) Ie (fpN Ie fe) tne stop) fun r sf ⟨hr, If⟩ => ?_
      subst hr
      have Ig : Inv X pins σ He sf := Ic.call' (ch := fp) If.os If.base If.hok If.bare fun b hb => ⟨(fpc b hb).1.2.2.2.1, (fpc b hb).1.2.1, (fpc b hb).1.2.2.2.2.1, (fpc b hb).1.2.2.2.2.2⟩
      have free : He ce.locals = none := If.free
      rw [locC] at free
      obtain ⟨m, hn, _⟩ := If.loc
      have hn : sf.heap.Ns ce.locals m := hn
      rw [locC] at hn
      exact post Dp sc.heap.objs.size sf m He Ig done hn (Ic.fpOk (Nat.le_refl _) free)
    · refine thnF (T.item (X.blk sc Hc scope ce fp) rfl rfl rfl calm i [] se _ He (fun _ _ => False) Ie (fpN Ie fe) tne go) fun r sf ⟨u, hr, hf⟩ => ?_
      subst hr
      refine thnF hf fun _ sg ⟨x, Hg, Ig, rx, yx, tng, fg⟩ => ?_
      refine thnF (aim.run _ sg _ Hg x u _ (Ig.pinned (fpN Ig fg) (T.obj _ _ tng)) rx (step x Hg yx)) fun _ sh ⟨σh, Hh, Ih, wh, qh⟩ => thnF (tests.run _ sh σh Hh _ Ih qh) fun b si ⟨Hi, Ii, qi⟩ => ?_
      have next : ∀ {s' : Shared} {H' : Hp}, Inv (X.blk sc Hc scope ce fp) ([] ++ pinsAt fp sg.heap) σh H' s' → Nx H' → ∃ m, m < n ∧ ∃ i H', Inv (X.blk sc Hc scope ce fp) [] (L2.wipe σ (own.map (·.2))) H' s' ∧ tn i s'.heap ∧ (∀ b ∈ fp, H' b = none) ∧ Y i m H' := fun {s' H'} I' nx => by
        obtain ⟨m', lt, y'⟩ := hNx H' nx
        have kept : ∀ b ∈ fp, ∀ o, sg.heap.get? b = some o → s'.heap.get? b = some o ∧ H' b = none := fun b hb o e =>
          let z := I'.pin (b, o) (List.mem_append_right _ (List.mem_append_right _ (mem_pinsAt hb e)))
          ⟨z.1, z.2.1⟩
        refine ⟨m', lt, i + 1, H', (I'.unpinned (pins := [])).weak (by rw [← wh, wipe_length]) (fun j v e => ?_), T.keep _ _ _ tng fun b hb o e => (kept b hb o e).1, fun b hb => ?_, y'⟩
        · rw [← wh] at e
          exact (wipe_some e).1
        · obtain ⟨o, e, _⟩ := T.obj _ _ tng b hb
          exact (kept b hb o e).2
      cases b with
      | false =>
        rw [if_neg Bool.false_ne_true] at qi
        rw [if_neg Bool.false_ne_true]
        exact next Ii qi
      | true =>
        rw [if_pos rfl] at qi
        rw [if_pos rfl]
        refine thnF (keyE.run _ si σh Hi _ Ii qi) fun zk sj ⟨yk, Hj, Ij, rk, qj⟩ => thnF (valE.run _ sj σh Hj _ Ij qj) fun zv sk ⟨yv, Hk, Ik, rv, qk⟩ => ?_
        exact thnF (sto _ σh Hk sk Dp yk yv zk zv Nx (fun _ _ => False) Ik rk rv qk) fun _ sl ⟨Hl, Il, nx⟩ => next Il nx
  exact codeAny_compStart_dict rounds (T.self X.A 0 _ _ _ tnd rounds)
theorem pe_dcS {st : DSt} {kx vx tg it : Expr} {ifs : List Expr} {scope : Scope} {own : List (PySem.Str × Nat)} {pos : Pos} {wi : TI} {g : TG} {tt : TT} {tk tv : TE} (calm : X.calm = true) (nd : X.N.Nodup) (walk : PI X tg it wi) (blk : BlkOk X.N X.env.scope scope own)
    (aim : ∀ (s : Shared) (H : Hp) (C : Addr) (cl : List (PySem.Str × Addr)) (fp : List Addr), PG (X.blk s H scope (compEnvC scope cl C X.env) fp) tg g)
    (tests : ∀ (s : Shared) (H : Hp) (C : Addr) (cl : List (PySem.Str × Addr)) (fp : List Addr), PTs (X.blk s H scope (compEnvC scope cl C X.env) fp) ifs tt)
    (keyE : ∀ (s : Shared) (H : Hp) (C : Addr) (cl : List (PySem.Str × Addr)) (fp : List Addr), PE (X.blk s H scope (compEnvC scope cl C X.env) fp) kx tk)
    (valE : ∀ (s : Shared) (H : Hp) (C : Addr) (cl : List (PySem.Str × Addr)) (fp : List Addr), PE (X.blk s H scope (compEnvC scope cl C X.env) fp) vx tv)
    (sto : ∀ (s : Shared) (H : Hp) (C : Addr) (cl : List (PySem.Str × Addr)) (fp : List Addr), DStOk (X.blk s H scope (compEnvC scope cl C X.env) fp) st)
    (nofold : ∀ x, foldedSetIterable it X.env x = pure x) : PE X (.DictComp kx vx [⟨tg, it, ifs, 0⟩] scope pos) (tDcS st wi g tt tk tv (own.map (·.2))) := by
  refine ⟨fun pins s σ H Q I read => ?_⟩
  rw [arm_eval_DictComp]
  exact dcS_eval calm nd I walk blk aim tests keyE valE sto nofold read fun Dp C s' m H' I' q hn ⟨f0, f1, f2, f3, f4, f5⟩ => ⟨m, hn, fun h'' sb => ⟨.ref Dp, H', I'.turned (t' := s'.toks) (fun b o hb e => (sb.2 b hb).trans e) f0 f1 f3 f4 f5, rfl, q⟩⟩
end
end Z
end

section
set_option Elab.async false
set_option linter.all false
set_option maxRecDepth 100000
set_option maxHeartbeats 4000000
/-! Z, part 25: dict comprehensions, dict displays. -/
namespace Z
open PySem PySem.W PySem.Spec PyProof.Rows L2 PySem.SeqAt
def dcEnd (mu : Bool) (p : List D × List D) (S : List O) : R D := if mu then .ok (.ref S.length) (S ++ [.dct p.1 p.2]) else .ok (.dct p.1 p.2) S
def dcFin (mu : Bool) (r : R (List D × List D)) : R D := match r with
  | .ok p S => dcEnd mu p S
  | _ => .bad
section
variable {W : Wd} {Φ : Fn} {n : Nat} {E : WX} {X : Cx} {T : Tab} {g : Gh} {S : List O} {t : LT} {lk l : LE} {li : LI} {lo : LO} {vs : List Nat} {mu : Bool}
theorem dcFin_cons {α : Type} {rel : Gh → D → α → Prop} {Ex : XK} {Q : α → Hp → Prop} {f : D → List O → R (List (D × D))} {keep : List O → Prop} [DecidablePred keep] {d : D} {ds : List D} {S : List O} {ks ws : List D}
    (o : OutG W rel Ex g (dcFin mu (mapP f keep (d :: ds) S ks ws)) Q) : ∃ x S1, f d S = .ok x S1 ∧ keep S1 ∧
      ((x = [] ∧ OutG W rel Ex g (dcFin mu (mapP f keep ds S1 ks ws)) Q) ∨ ∃ y, x = [y] ∧ (okKey ks y.1 = true ∨ okT ks y.1 = true) ∧ ks.length < lim ∧ OutG W rel Ex g (dcFin mu (mapP f keep ds S1 (dput ks ws y.1 y.2).1 (dput ks ws y.1 y.2).2)) Q) := by
  unfold mapP at o
  cases hf : f d S with
  | ok x S1 =>
    rw [hf] at o
    cases x with
    | nil =>
      dsimp only at o
      by_cases hk : keep S1
      · rw [if_pos hk] at o
        exact ⟨[], S1, rfl, hk, .inl ⟨rfl, o⟩⟩
      · rw [if_neg hk] at o
        exact o.elim
    | cons y r =>
      cases r with
      | nil =>
        dsimp only at o
        by_cases hk : keep S1 ∧ (okKey ks y.1 = true ∨ okT ks y.1 = true) ∧ ks.length < lim
        · rw [if_pos hk] at o
          exact ⟨[y], S1, rfl, hk.1, .inr ⟨y, rfl, hk.2.1, hk.2.2, o⟩⟩
        · rw [if_neg hk] at o
          exact o.elim
      | cons z r => exact o.elim
  | err e S1 => rw [hf] at o; exact o.elim
  | bad => rw [hf] at o; exact o.elim
theorem Le0.made {g g1 : Gh} (l : Le g1 g) {g2 : Gh} (l2 : Le0 g g2) {Dp : Addr} (hpD : g1.pn Dp = none) (hp : g2.pn = drp g.pn Dp) : Le g1 g2 := ⟨fun a u e => l2.hs _ _ (l.hs _ _ e), fun n a e => l2.ρ _ _ (l.ρ _ _ e), fun a u e => by
  rw [hp]
  unfold drp
  rw [if_neg (fun z => by rw [z, hpD] at e; cases e)]
  exact l.pn _ _ e⟩
/-- a dict's object, by the keys -/
theorem ro_key {a : Addr} {o : HO} {ks vs : List D} (r : RO W g a (.dct ks vs) o) (h : ks.all keyS = true) : ∃ kvs, o = .dK kvs ∧ KRel W g ks vs kvs := by
  obtain ⟨kv, vv, d, r1, r2⟩ := r
  rcases d with ⟨kvs, rfl, rfl, rfl, _⟩ | ⟨ob, xs, es, ep, _, _, _, _, _, _, _, _, _, hne, hT⟩
  · exact ⟨kvs, rfl, r1, r2, h⟩
  · exfalso
    cases ks with
    | nil => exact hne rfl
    | cons k ks =>
      have h1 := (all_cons h).1
      obtain ⟨ds, rfl, _⟩ := keyT_tup (all_cons hT).1
      cases h1
def rDSt (W : Wd) : DSt := fun Dp y z H N => ∃ g S ks vs o dk dv, RS W g S H ∧ g.pn Dp = some o ∧ RO W g Dp (.dct ks vs) o ∧ RD W g dk y ∧ RD W g dv z ∧ (okKey ks dk = true ∨ okT ks dk = true) ∧ ks.length < lim ∧
  ∀ o', RO W g Dp (.dct (dput ks vs dk dv).1 (dput ks vs dk dv).2) o' → N (upd H Dp o')
theorem rDSt_ok (hP : X.prog = W.P) (hw : X.w = W.w) (hK : X.K = W.K) (hu : X.A.units + 64 < cLine) : DStOk X (rDSt W) := by
  intro pins σ H s Dp y z u r N E I ry rz ⟨g, S, ks, vs, o, dk, dv, rs, hp, ro, rk, rv, hok, hlen, hN⟩
  have hD : H Dp = some o := rs.pin _ _ hp
  rcases hok with h1 | h1
  · have hk : keyS dk = true ∧ ks.all keyS = true := by simpa [okKey] using h1
    obtain ⟨kvs, rfl, kr⟩ := ro_key ro hk.2
    obtain rfl := rd_key hk.1 rk
    have hl : kvs.length < sizeLine := by
      have := kr.fk.length
      rw [List.length_map] at this
      rw [← lim_eq, ← this]
      exact hlen
    exact d_dictSet I hD hl ry rz fun s' I' => ⟨_, I', hN _ ((kr.put hk.1 rv).ro _)⟩
  · have hk : keyT dk = true ∧ ks.all keyT = true := by simpa [okT] using h1
    obtain ⟨kv, vv, dob, r1, r2⟩ := ro
    obtain ⟨xs, kt⟩ := dobj_T hK hP hw I rs.sub hD dob r1 r2 hk.2
    obtain ⟨b, rfl, rfl, hkey⟩ := key_is hK I rs.sub hk.1 rk ry
    have hx := kt.of
    rw [← hP, ← hw] at hx hkey
    have hl : xs.length ≤ sizeLine := by rw [kt.len, ← lim_eq]; exact Nat.le_of_lt hlen
    refine wpAny_dictSet_heap (hsz := hl) (by show X.A.units + 8 < cLine; omega) hkey hx fun h' hm' hs => ?_
    rw [hP, hw] at hm'
    have kt' := kt.put (h' := h') hk.1 rk rv rz hm'
    obtain ⟨ob, e1, ro'⟩ := kt'.ro (dput_ne _ _ _ _)
    refine ⟨_, ?_, hN _ ro'⟩
    exact I.write (x := Dp) (e := Dp) (o := .ext fun h => h.get? Dp = some ob) (by rw [hD]; exact mut_dobj dob) (.inl rfl) (fun b q hb z => (hs.2 b hb).trans z) ⟨ob, e1⟩ ⟨e1, ⟨ob, e1⟩, fun h1 h2 e1 k => k _ e1⟩
/-- the dict is made -/
theorem dc_made {Ex : XK} {g g1 : Gh} {S : List O} {H : Hp} {Q : VK} {p : List D × List D} {ob : HO} {Dp : Addr} (l : Le g1 g) (hpD : g1.pn Dp = none) (rs : RS W g S H) (hp : g.pn Dp = some ob) (rd : RO W g Dp (.dct p.1 p.2) ob)
    (o : Out W Ex g1 (dcEnd mu p S) Q) : Q (.ref Dp) H := by
  have hH : upd H Dp ob = H := upd_id (rs.pin _ _ hp)
  unfold dcEnd at o
  cases mu with
  | true =>
    obtain ⟨rs', l'⟩ := rs.madeS (ob' := .dct p.1 p.2) (o' := ob) hp rd
    rw [hH] at rs'
    refine o _ H _ (Le0.made l l' hpD rfl) rs' ⟨Dp, ?_, rfl⟩
    show (g.ρ ++ [Dp])[S.length]? = _
    rw [← rs.len]
    simp
  | false =>
    obtain ⟨rs', l'⟩ := rs.made (o' := ob) hp
    rw [hH] at rs'
    obtain ⟨kv, vv, d, r1, r2⟩ := rd
    exact o _ H _ (Le0.made l l' hpD rfl) rs' ⟨Dp, _, _, _, rfl, by exact upd_same, d, r1.mono l', r2.mono l'⟩
open Classical in
theorem dc_read {σ : L2.St} {H : Hp} {Q : VK} (hsl : ∀ j ∈ t.slots, j ∈ vs) (h : EV W E T Φ (.dc mu lk l t li lo vs) σ H Q) :
    tDcS (rDSt W) (tEvI W t E (evI T Φ li)) (tPut W t) (tEvB W E0 (evT T Φ lo)) (EV W E0 T Φ lk) (EV W E0 T Φ l) vs σ H Q := by
  obtain ⟨g, S, σd, rs, rst, o⟩ := h
  simp only [ev] at o
  refine ⟨g, S, σd, rs, rst, ?_⟩
  have ob := OutI.bind (t := t) rst o
  cases hr : evI T Φ li σd S with
  | bad => rw [hr] at ob; exact ob
  | err e S1 => rw [hr] at ob; exact ob
  | ok r S1 =>
    rw [hr] at ob
    obtain ⟨ds0, ns0⟩ := r
    intro g' H' J l' rs' it' Dp hD
    obtain ⟨g1, S1', ds, ns, le1, rs1, rst1, it1, o1⟩ := ob g' H' J l' rs' it'
    dsimp only at o1
    obtain ⟨rsD, leD⟩ := rs1.make (o := .dK []) hD
    have hpD : g1.pn Dp = none := by
      cases e : g1.pn Dp with
      | none => rfl
      | some u => rw [rs1.pin Dp u e] at hD; cases hD
    generalize hf : (fun (d : D) (S : List O) => match t.put d (Z.wipe σd vs) with
        | none => R.bad
        | some σ' => (evT T Φ lo σ' S).bind fun b S => if b = true then (ev T Φ lk σ' S).bind fun x S => (ev T Φ l σ' S).bind fun y S => .ok [(x, y)] S else .ok [] S) = f at o1
    have hfe : ∀ d S, f d S = (match t.put d (Z.wipe σd vs) with
        | none => R.bad
        | some σ' => (evT T Φ lo σ' S).bind fun b S => if b = true then (ev T Φ lk σ' S).bind fun x S => (ev T Φ l σ' S).bind fun y S => .ok [(x, y)] S else .ok [] S) := fun d S => by rw [← hf]
    refine ⟨fun i m H => m = ds.length - i ∧ i ≤ ds.length ∧ ∃ g S ob ks ws, Le g1 g ∧ RS W g S H ∧ RSt W g (Z.wipe σd vs) (L2.wipe σ vs) ∧ Keeps S1' ns S ∧ g.pn Dp = some ob ∧ RO W g Dp (.dct ks ws) ob ∧
      Out W (fun c d H => E c d σ H) g1 (dcFin mu (mapP f (Keeps S1' ns) (ds.drop i) S ks ws)) Q, ⟨ds.length, by simp, Nat.zero_le _, _, S1', _, [], [], leD, rsD, rst_wipe (rst1.mono leD.to0), fun _ _ => rfl, by exact upd_same, ⟨[], [], .inl ⟨[], rfl, rfl, rfl, rfl⟩, rfl, rfl⟩, ?_⟩, ?_⟩
    · rw [List.drop_zero]
      cases hm : mapP f (Keeps S1' ns) ds S1' [] [] with
      | ok xs S2 => rw [hm] at o1; exact o1
      | err e S2 => rw [hm] at o1; exact o1
      | bad => rw [hm] at o1; exact o1
    rintro i m H ⟨rfl, hi, g2, S2, ob, ks, ws, l2, rs2, rst2, k2, hp2, kr, o2⟩
    by_cases hlt : i < ds.length
    · refine .inr ⟨it1.go g2 S2 H i l2 rs2 k2 hlt, fun H => ∃ g S ob ks ws, Le g1 g ∧ RS W g S H ∧ RSt W g (Z.wipe σd vs) (L2.wipe σ vs) ∧ Keeps S1' ns S ∧ g.pn Dp = some ob ∧ RO W g Dp (.dct ks ws) ob ∧
        Out W (fun c d H => E c d σ H) g1 (dcFin mu (mapP f (Keeps S1' ns) (ds.drop (i + 1)) S ks ws)) Q, fun H' h => ⟨ds.length - (i + 1), by omega, rfl, hlt, h⟩, fun x H' hy => ?_⟩
      have hd : ds[i]? = some ds[i] := List.getElem?_eq_getElem hlt
      obtain ⟨g3, l3, rs3, rd3⟩ := it1.yld g2 S2 H i x H' ds[i] l2 rs2 k2 hd hy
      rw [List.drop_eq_getElem_cons hlt] at o2
      obtain ⟨xs, S4, e4, k4, o4⟩ := dcFin_cons o2
      rw [hfe] at e4
      cases hput : t.put ds[i] (Z.wipe σd vs) with
      | none => rw [hput] at e4; cases e4
      | some σ' =>
        rw [hput] at e4
        dsimp only at e4
        refine ⟨g3, S2, Z.wipe σd vs, ds[i], σ', rs3, rst2.mono l3.to0, rd3, hput, fun σ2 rst' on => ⟨?_, g3, S2, σ', rs3, rst', ?_⟩⟩
        · rw [only_wipe on hsl, wipe_wipe]
        · cases hT : evT T Φ lo σ' S2 with
          | bad => rw [hT] at e4; cases e4
          | err e S => rw [hT] at e4; cases e4
          | ok b S3 =>
            rw [hT] at e4
            simp only [R.bind_ok] at e4
            intro g4 H3 b' l4 rs4 eb
            subst eb
            cases b with
            | false =>
              rw [if_neg (by simp)]
              rw [if_neg (by simp)] at e4
              cases e4
              rcases o4 with ⟨_, o4⟩ | ⟨y, z, _⟩
              · have l14 := l3.trans l4
                exact ⟨g4, S4, ob, ks, ws, l2.trans l14, rs4, rst2.mono l14.to0, k4, l14.pn _ _ hp2, kr.mono l14.to0, o4⟩
              · cases z
            | true =>
              rw [if_pos rfl]
              rw [if_pos rfl] at e4
              refine ⟨g4, S3, σ', rs4, rst'.mono l4.to0, ?_⟩
              cases hE : ev T Φ lk σ' S3 with
              | bad => rw [hE] at e4; cases e4
              | err e S => rw [hE] at e4; cases e4
              | ok dk S5 =>
                rw [hE] at e4
                simp only [R.bind_ok] at e4
                intro g5 H4 yk l5 rs5 rd5
                refine ⟨g5, S5, σ', rs5, (rst'.mono l4.to0).mono l5.to0, ?_⟩
                cases hE2 : ev T Φ l σ' S5 with
                | bad => rw [hE2] at e4; cases e4
                | err e S => rw [hE2] at e4; cases e4
                | ok d S6 =>
                  rw [hE2] at e4
                  simp only [R.bind_ok] at e4
                  cases e4
                  intro g6 H5 y l6 rs6 rd6
                  rcases o4 with ⟨z, _⟩ | ⟨yy, z, hok, hlen, o4⟩
                  · cases z
                  cases z
                  have l16 := l3.trans (l4.trans (l5.trans l6))
                  have hp6 := l16.pn _ _ hp2
                  refine ⟨g6, S4, ks, ws, ob, dk, d, rs6, hp6, kr.mono l16.to0, rd5.mono l6.to0, rd6, hok, hlen, fun o' ro' => ?_⟩
                  have l2x : Le0 g2 ⟨g6.hs, g6.ρ, upd g6.pn Dp o'⟩ := ⟨l16.hs, l16.ρ⟩
                  have l6x : Le0 g6 ⟨g6.hs, g6.ρ, upd g6.pn Dp o'⟩ := ⟨fun _ _ e => e, fun _ _ e => e⟩
                  exact ⟨⟨g6.hs, g6.ρ, upd g6.pn Dp o'⟩, S4, o', _, _, (l2.trans l16).remake hpD _, rs6.remake hp6, rst2.mono l2x, k4, by exact upd_same, ro'.mono l6x, o4⟩
    · have hi2 : i = ds.length := by omega
      subst hi2
      refine .inl ⟨it1.stop g2 S2 H l2 rs2 k2, ?_⟩
      rw [List.drop_length] at o2
      unfold mapP dcFin at o2
      dsimp only at o2
      exact dc_made l2 hpD rs2 hp2 kr o2
theorem pe_dcZ {kx vx tg it : Expr} {ifs : List Expr} {scope : Scope} {own : List (PySem.Str × Nat)} {pos : Pos} (c : Cs W Φ n E X) (hi : PI X tg it (tEvI W t E (evI T Φ li))) (ok : BlkOk X.N X.env.scope scope own)
    (hg : ∀ (s : Shared) (H : Hp) (C : Addr) (cl : List (PySem.Str × Addr)) (fp : List Addr), PG (X.blk s H scope (compEnvC scope cl C X.env) fp) tg (tPut W t))
    (ht : ∀ (s : Shared) (H : Hp) (C : Addr) (cl : List (PySem.Str × Addr)) (fp : List Addr), PTs (X.blk s H scope (compEnvC scope cl C X.env) fp) ifs (tEvB W E0 (evT T Φ lo)))
    (hk : ∀ (s : Shared) (H : Hp) (C : Addr) (cl : List (PySem.Str × Addr)) (fp : List Addr), PE (X.blk s H scope (compEnvC scope cl C X.env) fp) kx (EV W E0 T Φ lk))
    (he : ∀ (s : Shared) (H : Hp) (C : Addr) (cl : List (PySem.Str × Addr)) (fp : List Addr), PE (X.blk s H scope (compEnvC scope cl C X.env) fp) vx (EV W E0 T Φ l))
    (hs : ∀ x, foldedSetIterable it X.env x = pure x) (hsl : ∀ j ∈ t.slots, j ∈ own.map (·.2)) : PE X (.DictComp kx vx [⟨tg, it, ifs, 0⟩] scope pos) (EV W E T Φ (.dc mu lk l t li lo (own.map (·.2)))) :=
  PE.mono (pe_dcS c.hc c.nd hi ok hg ht hk he (fun s H C cl fp => rDSt_ok c.p c.w c.K c.hu) hs) fun σ H Q h => dc_read hsl h
end
end Z
end

section
set_option Elab.async false
set_option linter.all false
set_option maxRecDepth 100000
set_option maxHeartbeats 4000000
/-! Z, part 26: dict displays, items stored, two names at once, what is not read. -/
namespace Z
open PySem PySem.W PySem.Spec PyProof.Rows L2 PySem.SeqAt
section
variable {W : Wd} {Φ : Fn} {n : Nat} {E : WX} {X : Cx} {T : Tab} {g : Gh} {S : List O} {H : Hp} {pins : List (Addr × Obj)} {σ : L2.St} {s : Shared} {Wn : Nat} {mu : Bool}
variable {a b e o i tg it : Expr} {la lb le lo li l : LE} {pos p p2 : Pos} {st : Stmt}
theorem pe_nevZ : PE X e (EV W E T Φ .nev) := ⟨fun pins s σ H Q I ⟨g, S, σd, rs, rst, o⟩ => by simp only [ev] at o; exact o.elim⟩
theorem ps_nevZ : PS X st (EX W E T Φ Wn .nev) := ⟨fun pins s σ H D I ⟨g, S, σd, rs, rst, o⟩ => by simp only [ex] at o; exact o.elim⟩
theorem pi_nevZ {t : LT} : PI X tg it (tEvI W t E (evI T Φ .nev)) := ⟨fun pins s σ H Q I ⟨g, S, σd, rs, rst, o⟩ => by simp only [evI] at o; exact o.elim⟩
/-! displays of dicts, the keys constants -/
def csts : List D → LEs
  | [] => .nil
  | d :: ds => .cons (.cst d) (csts ds)
def lesOf : List LE → LEs
  | [] => .nil
  | l :: ls => .cons l (lesOf ls)
theorem evs_csts {σd : St} : ∀ (ds : List D) (S : List O), evs T Φ (csts ds) σd S = .ok ds S
  | [], S => by simp [csts, evs]
  | d :: ds, S => by simp [csts, evs, ev, evs_csts ds S]
def trsOf (W : Wd) (E : WX) (T : Tab) (Φ : Fn) : List D → List LE → List (TE × TE)
  | d :: ds, l :: ls => (tC (kV (toKey d)), EV W E T Φ l) :: trsOf W E T Φ ds ls
  | _, _ => []
theorem pairs_read {σd : St} : ∀ (ds : List D) (ls : List LE), ds.length = ls.length → ∀ {S : List O} {g : Gh} {H : Hp} {Q : List (V × V) → Hp → Prop}, RS W g S H → RSt W g σd σ →
    OutG W (RDs W) (fun c d H => E c d σ H) g (evs T Φ (lesOf ls) σd S) (fun vs H1 => Q ((ds.map fun d => kV (toKey d)).zip vs) H1) → tPairs (trsOf W E T Φ ds ls) σ H Q
  | [], [], _, S, g, H, Q, rs, rst, o => by
    simp only [lesOf, evs] at o
    exact o g H [] Le.rfl' rs rfl
  | [], _ :: _, h, _, _, _, _, _, _, _ => by simp at h
  | _ :: _, [], h, _, _, _, _, _, _, _ => by simp at h
  | d :: ds, l :: ls, h, S, g, H, Q, rs, rst, o => by
    simp only [lesOf, evs] at o
    refine ⟨g, S, σd, rs, rst, OutG.mono (OutG.bind rst o) fun v H1 ⟨g1, S1, d1, le1, rs1, rst1, rd1, o1⟩ => ?_⟩
    refine pairs_read ds ls (by simpa using h) rs1 rst1 (OutG.mono (OutG.bind rst1 o1) fun vs H2 ⟨g2, S2, d2, le2, rs2, rst2, rd2, o2⟩ => ?_)
    exact o2 g2 H2 (v :: vs) Le.rfl' rs2 ⟨v, vs, rfl, rd1.mono le2, rd2⟩
theorem krel_zip : ∀ {ds : List D} {vd : List D} {vs : List V}, ds.all keyS = true → ds.length = vd.length → RDs W g vd vs → KRel W g ds vd ((ds.map toKey).zip vs)
  | [], [], vs, _, _, r => by
    cases (show vs = [] from r)
    exact ⟨rfl, rfl, rfl⟩
  | [], _ :: _, _, _, h, _ => by simp at h
  | _ :: _, [], _, _, h, _ => by simp at h
  | d :: ds, v :: vd, vs, hk, h, r => by
    obtain ⟨k1, k2⟩ := all_cons hk
    obtain ⟨x, xs, rfl, r1, r2⟩ := r
    have ih := krel_zip k2 (by simpa using h) r2
    exact ⟨RDs.cons (key_rd k1) ih.fk, RDs.cons r1 ih.fv, hk⟩
theorem pe_dctZ {keys : List (Option Expr)} {values : List Expr} {ds : List D} {ls : List LE} (hp : PPs X pos keys values (trsOf W E T Φ ds ls)) (hall : keys.all (·.isSome) = true) (hl : keys.length = values.length) (h0 : keys ≠ []) (h15 : keys.length ≤ 15)
    (hds : ds.length = ls.length) (hd15 : ds.length ≤ 15) : PE X (.Dict keys values pos) (EV W E T Φ (.dct mu (csts ds) (lesOf ls))) := by
  refine PE.mono (pe_disp hp hall hl h0 h15) fun σ H Q ⟨g, S, σd, rs, rst, o⟩ p hp => ?_
  simp only [ev] at o
  rw [evs_csts] at o
  simp only [R.bind_ok] at o
  obtain ⟨rs', le⟩ := rs.make (o := .dK []) hp
  refine pairs_read ds ls hds rs' (rst.mono le.to0) (OutG.mono (OutG.bind1 le o) fun vs H1 ⟨g1, S1, vd, le1, rs1, rd1, o1⟩ => ?_)
  dsimp only at o1
  have hpn : g1.pn p = some (.dK []) := le1.pn _ _ (by exact upd_same)
  by_cases hk : ds.all keyS = true ∧ ds.length = vd.length
  · rw [if_pos hk] at o1
    have kr := krel_zip hk.1 hk.2 rd1
    have hl2 := rd1.length
    refine ⟨rs1.pin _ _ hpn, (ds.map toKey).zip vs, ?_, ?_, ?_⟩
    · rw [List.zip_map_left, List.zip_map_left, List.map_map]
      rfl
    · rw [List.length_zip, List.length_map]
      omega
    · have krm : KRel W g1 (dputs [] [] ds vd).1 (dputs [] [] ds vd).2 (mergeK [] ((ds.map toKey).zip vs)) := krel_merged kr ⟨rfl, rfl, rfl⟩
      have hle : ∀ {g2 : Gh}, Le0 g1 g2 → g2.pn = drp g1.pn p → Le g g2 := fun {g2} l0 hpn2 => ⟨fun a u e => l0.hs _ _ (le1.hs _ _ (le.hs _ _ e)), fun n a e => l0.ρ _ _ (le1.ρ _ _ (le.ρ _ _ e)), fun a u e => by
        rw [hpn2]
        unfold drp
        rw [if_neg fun z => by rw [z] at e; exact absurd (rs.pin _ _ e) (by rw [hp]; exact nofun)]
        exact le1.pn _ _ (le.pn _ _ e)⟩
      cases mu with
      | true =>
        obtain ⟨rs2, l2⟩ := rs1.madeS (ob' := .dct (dputs [] [] ds vd).1 (dputs [] [] ds vd).2) (o' := .dK (mergeK [] ((ds.map toKey).zip vs))) hpn ⟨_, _, krm.obj _, krm.fk, krm.fv⟩
        refine o1 _ _ _ (hle l2 rfl) rs2 ⟨p, ?_, rfl⟩
        show (g1.ρ ++ [p])[S1.length]? = _
        rw [← rs1.len]
        simp
      | false =>
        obtain ⟨rs2, l2⟩ := rs1.made (o' := .dK (mergeK [] ((ds.map toKey).zip vs))) hpn
        exact o1 _ _ _ (hle l2 rfl) rs2 ⟨p, _, _, _, rfl, by exact upd_same, krm.obj _, krm.fk.mono l2, krm.fv.mono l2⟩
  · rw [if_neg hk] at o1
    exact o1.elim
/-- a display of one pair, the key any expression -/
theorem pe_dct1Z {ke ve : Expr} {lk lv : LE} (hke : PE X ke (EV W E T Φ lk)) (hve : PE X ve (EV W E T Φ lv)) : PE X (.Dict [some ke] [ve] pos) (EV W E T Φ (.dct mu (.cons lk .nil) (.cons lv .nil))) := by
  refine PE.mono (pe_disp (pps_cons hke hve pps_nil) rfl rfl (by simp) (by simp)) fun σ H Q ⟨g, S, σd, rs, rst, o⟩ p hp => ?_
  have e : ev T Φ (.dct mu (.cons lk .nil) (.cons lv .nil)) σd S = (ev T Φ lk σd S).bind fun d S => (ev T Φ lv σd S).bind fun v S => if [d].all keyS ∧ [d].length = [v].length then
      if mu then .ok (.ref S.length) (S ++ [.dct (dputs [] [] [d] [v]).1 (dputs [] [] [d] [v]).2]) else .ok (.dct (dputs [] [] [d] [v]).1 (dputs [] [] [d] [v]).2) S else .bad := by
    simp only [ev, evs]
    cases ev T Φ lk σd S with
    | ok d S1 =>
      simp only [R.bind_ok]
      cases ev T Φ lv σd S1 <;> rfl
    | err _ _ => rfl
    | bad => rfl
  rw [e] at o
  obtain ⟨rs', le⟩ := rs.make (o := .dK []) hp
  refine ⟨_, S, σd, rs', rst.mono le.to0, OutG.mono (OutG.bind1 le o) fun x H1 ⟨g1, S1, d1, le1, rs1, rd1, o1⟩ => ?_⟩
  refine ⟨g1, S1, σd, rs1, (rst.mono le.to0).mono le1.to0, OutG.mono (OutG.bind1 (le.trans le1) o1) fun y H2 ⟨g2, S2, d2, le2, rs2, rd2, o2⟩ => ?_⟩
  dsimp only at o2
  have hpn : g2.pn p = some (.dK []) := le2.pn _ _ (le1.pn _ _ (by exact upd_same))
  by_cases hk : [d1].all keyS ∧ [d1].length = [d2].length
  · rw [if_pos hk] at o2
    have hk1 : keyS d1 = true := by simpa using hk.1
    have ex : x = kV (toKey d1) := rd_key hk1 rd1
    subst ex
    have kr : KRel W g2 [d1] [d2] (([d1].map toKey).zip [y]) := krel_zip hk.1 hk.2 ⟨y, [], rfl, rd2, rfl⟩
    refine ⟨rs2.pin _ _ hpn, ([d1].map toKey).zip [y], rfl, by simp, ?_⟩
    have krm : KRel W g2 (dputs [] [] [d1] [d2]).1 (dputs [] [] [d1] [d2]).2 (mergeK [] (([d1].map toKey).zip [y])) := krel_merged kr ⟨rfl, rfl, rfl⟩
    have hle : ∀ {g3 : Gh}, Le0 g2 g3 → g3.pn = drp g2.pn p → Le g g3 := fun {g3} l0 hpn2 => ⟨fun a u e => l0.hs _ _ (le2.hs _ _ (le1.hs _ _ (le.hs _ _ e))), fun n a e => l0.ρ _ _ (le2.ρ _ _ (le1.ρ _ _ (le.ρ _ _ e))), fun a u e => by
      rw [hpn2]
      unfold drp
      rw [if_neg fun z => by rw [z] at e; exact absurd (rs.pin _ _ e) (by rw [hp]; exact nofun)]
      exact le2.pn _ _ (le1.pn _ _ (le.pn _ _ e))⟩
    cases mu with
    | true =>
      obtain ⟨rs3, l2⟩ := rs2.madeS (ob' := .dct (dputs [] [] [d1] [d2]).1 (dputs [] [] [d1] [d2]).2) (o' := .dK (mergeK [] (([d1].map toKey).zip [y]))) hpn ⟨_, _, krm.obj _, krm.fk, krm.fv⟩
      refine o2 _ _ _ (hle l2 rfl) rs3 ⟨p, ?_, rfl⟩
      show (g2.ρ ++ [p])[S2.length]? = _
      rw [← rs2.len]
      simp
    | false =>
      obtain ⟨rs3, l2⟩ := rs2.made (o' := .dK (mergeK [] (([d1].map toKey).zip [y]))) hpn
      exact o2 _ _ _ (hle l2 rfl) rs3 ⟨p, _, _, _, rfl, by exact upd_same, krm.obj _, krm.fk.mono l2, krm.fv.mono l2⟩
  · rw [if_neg hk] at o2
    exact o2.elim
/-! an item stored -/
theorem ps_asiZ (c : Cs W Φ n E X) (ho : PE X o (EV W E T Φ lo)) (hi : PE X i (EV W E T Φ li)) (he : PE X e (EV W E T Φ le)) (hs : swapsWith e (some (.Subscript o i p)) pos.line X.env = pure false) :
    PS X (.Assign [.Subscript o i p] e pos) (EX W E T Φ Wn (.asi lo li le)) := by
  refine ⟨fun pins s σ H D I ⟨g, S, σd, rs, rst, o⟩ => ?_⟩
  simp only [ex] at o
  refine wpAny_Assign_Subscript (thn (he.run pins s σ H _ I ⟨g, S, σd, rs, rst, OutF.bs (rel := RD W) rst o⟩) fun r s1 ⟨v, H1, I1, rv, g1, S1, dv, le1, rs1, rst1, rd1, o1⟩ => ?_) hs
  refine thn (ho.run pins s1 σ H1 _ I1 ⟨g1, S1, σd, rs1, rst1, OutF.bs (rel := RD W) rst1 o1⟩) fun u s2 ⟨x, H2, I2, rx, g2, S2, dx, le2, rs2, rst2, rd2, o2⟩ => ?_
  refine thn (hi.run pins s2 σ H2 _ I2 ⟨g2, S2, σd, rs2, rst2, OutF.bs (rel := RD W) rst2 o2⟩) fun iv s3 ⟨y, H3, I3, ry, g3, S3, dy, le3, rs3, rst3, rd3, o3⟩ => ?_
  have rdv : RD W g3 dv v := (rd1.mono le2.to0).mono le3.to0
  cases dx with
  | ref m =>
    have rd2' := RD.mono le3.to0 rd2
    obtain ⟨q, hq, rfl⟩ := rd2'
    cases rx
    dsimp only at o3
    cases hS : S3[m]? with
    | none => rw [hS] at o3; exact o3.elim
    | some ob =>
      rw [hS] at o3
      cases ob with
      | lst ds =>
        cases dy with
        | int k =>
          dsimp only at o3
          cases hix : L2.ixN ds.length k with
          | none => rw [hix] at o3; exact o3.elim
          | some j =>
            rw [hix] at o3
            dsimp only at o3
            obtain ⟨ho', h1, vs, rfl, r3⟩ := rs3.obj m _ q hS hq
            cases rd3
            refine wpAny_mono (set_list pins s3 σ H3 (.ref q) (.int k) v (.ref q) iv r (fun H' => D.nx σ H') I3 rfl ry rv ⟨q, vs, k, j, rfl, rfl, h1, by rw [← r3.length]; exact hix, ?_⟩) (fun _ s' ⟨H', I', q⟩ => ⟨σ, H', I', q⟩) fun _ _ h => h
            exact o3 g3 _ σ Le.rfl' (rs3.write hq ⟨_, rfl, r3.set rdv j⟩) rst3
        | _ => exact o3.elim
      | dct ks vs =>
        have o3' : OutF W E D g3 (if (okKey ks dy = true ∨ okT ks dy = true) ∧ ks.length < lim then .ok (.nx σd) (S3.set m (.dct (dput ks vs dy dv).1 (dput ks vs dy dv).2)) else .bad) := by
          cases dy <;> exact o3
        by_cases hk : (okKey ks dy = true ∨ okT ks dy = true) ∧ ks.length < lim
        · rw [if_pos hk] at o3'
          rcases hk.1 with hk1 | hk1
          · have hk' : keyS dy = true ∧ ks.all keyS = true := by simpa [okKey] using hk1
            obtain ⟨a', kvs, z, e2, h1, kr⟩ := ref_dct rs3 ⟨q, hq, rfl⟩ hS hk'.2
            cases z
            obtain rfl := rd_key hk'.1 rd3
            have hl : kvs.length < sizeLine := by
              have := kr.fk.length
              rw [List.length_map] at this
              rw [← lim_eq, ← this]
              exact hk.2
            exact d_setItem (by have := c.hu; omega) I3 (DPut.k h1 hl) ry rv fun s4 I4 => ⟨σ, _, I4, o3' g3 _ σ Le.rfl' (rs3.write e2 ((kr.put hk'.1 rdv).ro _)) rst3⟩
          · have hk' : keyT dy = true ∧ ks.all keyT = true := by simpa [okT] using hk1
            obtain ⟨a', ob, kv, vv, z, e2, ha, dob, rk, rvv⟩ := ref_dct0 rs3 ⟨q, hq, rfl⟩ hS
            cases z
            obtain ⟨xs, kt⟩ := dobj_T c.K c.p c.w I3 rs3.sub ha dob rk rvv hk'.2
            obtain ⟨b, rfl, rfl, hkey⟩ := key_is c.K I3 rs3.sub hk'.1 rd3 ry
            have hx := kt.of
            rw [← c.p, ← c.w] at hx hkey
            have hl : xs.length ≤ sizeLine := by rw [kt.len, ← lim_eq]; exact Nat.le_of_lt hk.2
            refine wpAny_setItem_heap (hsz := hl) (by show X.A.units + 1 + 8 < cLine; have := c.hu; omega) hkey hx fun h' hm' hs => ?_
            rw [c.p, c.w] at hm'
            obtain ⟨o', I', rs'⟩ := put_T (tk := s3.toks + (nestedKind X.prog X.w).draws (nk dy)) I3 rs3 e2 ha dob (kt.put (h' := h') hk'.1 rd3 rdv rv hm') (dput_ne _ _ _ _) hs
            exact ⟨σ, _, I', o3' g3 _ σ Le.rfl' rs' rst3⟩
        · rw [if_neg hk] at o3'
          exact o3'.elim
      | ins c fs vs => exact o3.elim
  | _ => exact o3.elim
/-! two, three names at once -/
theorem ps_par2Z {x y : PySem.Str} {px py pt pt2 : Pos} {kt k2 ix iy : Nat} (c : Cs W Φ n E X) (hi : X.N[ix]? = some x) (hj : X.N[iy]? = some y) (hij : ix ≠ iy) (hx : X.env.scope.names.lookup x = some .local) (hy : X.env.scope.names.lookup y = some .local)
    (ha : PE X a (EV W E T Φ la)) (hb : PE X b (EV W E T Φ lb)) (s1 : isStar a = false) (s2 : isStar b = false) (hw : swappedStores [.Tuple [.Name x px, .Name y py] kt pt] (.Tuple [a, b] k2 pt2) X.env = pure (some [x, y])) :
    PS X (.Assign [.Tuple [.Name x px, .Name y py] kt pt] (.Tuple [a, b] k2 pt2) pos) (EX W E T Φ Wn (.asg (.tp (.cons (.nm ix) (.cons (.nm iy) .nil))) (.tup (.cons la (.cons lb .nil))))) := by
  refine ⟨fun pins s σ H D I ⟨g, S, σd, rs, rst, o⟩ => (ps_par c.hc c.nd hi hj hij hx hy (pa_consZ ha (pa_consZ hb pa_nilZ s2) s1) hw).run pins s σ H D I ?_⟩
  simp only [ex, ev] at o
  have o' : OutF W E D g ((evs T Φ (.cons la (.cons lb .nil)) σd S).bs σd fun ds S => match ds with | [u, v] => .ok (.nx ((σd.set ix (some u)).set iy (some v))) S | _ => .bad) := by
    cases hr : evs T Φ (.cons la (.cons lb .nil)) σd S with
    | ok ds S1 =>
      obtain ⟨u, v, rfl⟩ := evs_two hr
      rw [hr] at o
      exact o
    | err e S1 => rw [hr] at o; exact o
    | bad => rw [hr] at o; exact o
  refine ⟨g, S, σd, rs, rst, OutG.mono (OutF.bs (rel := RDs W) rst o') fun vs H1 ⟨g1, S1, ds, le1, rs1, rst1, rd1, o1⟩ => ?_⟩
  split at o1
  · rename_i u v
    obtain ⟨v1, v2, rfl, r1, r2⟩ := rd1.two
    have hl := I.len
    exact ⟨v1, v2, rfl, o1 g1 H1 _ Le.rfl' rs1 (rst_set (rst_set rst1 r1 (by rw [hl]; exact (List.getElem?_eq_some_iff.mp hi).1)) r2 (by rw [List.length_set, hl]; exact (List.getElem?_eq_some_iff.mp hj).1))⟩
  · exact o1.elim
end
end Z
end

section
set_option Elab.async false
set_option linter.all false
set_option maxRecDepth 100000
set_option maxHeartbeats 4000000
/-! Z, part 27: dict(zip(..)) over lists and tuples, list(range(..)). -/
namespace Z
open PySem PySem.W PySem.Spec PyProof.Rows L2 PySem.SeqAt
section
variable {prog : Program} {w : World} {A : Around} {E : Value → Shared → Prop} {s : Shared} {zz ti to' j1 j2 : Addr} {fa fb : List Addr} {m1 m2 i : Nat} {Pa Pb : Nat → Value → Prop} {Sa Sb : Nat → Heap → Prop} {tt : Addr} {ff : Bool} {ot : Obj}
/-- next of a zip whose last pair is still held -/
theorem zh_item {Q : Value → Shared → Prop} (sp : ZipSep2 zz ti to' j1 j2 fa fb) (Da : Draws prog w A j1 fa m1 Pa Sa) (Db : Draws prog w A j2 fb m2 Pb Sb)
    (ez : IsZipHeld s.heap zz ti to' tt ff) (et : s.heap.get? tt = some ot) (eti : IsTupOf2 s.heap ti (.ref j1) (.ref j2)) (qa : Sa i s.heap) (qb : Sb i s.heap) (la : i < m1) (lb : i < m2)
    (hQ : ∀ u v h' tk, Pa i u → Pb i v → IsZipHeld h' zz ti to' tt true → Sa (i + 1) h' → Sb (i + 1) h' → IsTupOf2 h' s.heap.objs.size u v →
      (∀ c o, c ≠ zz → c ≠ j1 → c ≠ j2 → s.heap.get? c = some o → h'.get? c = some o) → Q (.ref s.heap.objs.size) { s with heap := h', toks := tk }) :
    wpAny (model prog w) A (Builtin.«zip.__next__» ⟨[.ref zz], []⟩) (fun fin s' => ∃ v, fin = .done (.ret v) ∧ Q v s') E s := by
  obtain ⟨hp, gg, dd, k0, os⟩ := s
  show wpAny _ _ (field (.ref zz) 2 >>= _) _ _ _
  refine wpAny_bind (wpAny_field ez rfl (x := .bool false) rfl ?_)
  show wpAny _ _ (field (.ref zz) 3 >>= _) _ _ _
  refine wpAny_bind (wpAny_field ez rfl (x := .ref ti) rfl ?_)
  refine wpAny_bind (wpAny_seqItems eti rfl ?_)
  show wpAny _ _ (Builtin.SmallTypes.ownedTupleIsFree (.ref zz) >>= _) _ _ _
  refine wpAny_bind (wpAny_tupleHeld_zip ez et fun h1 ez1 b1 => ?_)
  replace b1 : Heap.SameBut zz hp h1 := b1
  simp only [Bool.false_eq_true, if_false]
  refine wpAny_bind ?_
  rw [← Array.forIn_toList]
  simp only [List.forIn_cons, List.forIn_nil]
  refine wpAny_bind (wpAny_bind (wpAny_holding ?_))
  show wpAny _ _ (Builtin.SmallTypes.nextOf (.ref j1) >>= _) _ _ ⟨h1, gg, dd, k0, os⟩
  refine wpAny_bind (Da.item i _ _ _ la (Da.over qa b1 sp.zf1) fun u h2 k1 pu ru b2 => wpAny_pure ?_)
  replace b2 : Heap.SameBut j1 h1 h2 := b2
  refine wpAny_pure ?_
  refine wpAny_bind (wpAny_bind (wpAny_holding ?_))
  show wpAny _ _ (Builtin.SmallTypes.nextOf (.ref j2) >>= _) _ _ ⟨h2, gg, dd, k1, os⟩
  refine wpAny_bind (Db.item i _ _ _ lb (Db.over (Db.over qb b1 sp.zf2) b2 sp.sep1_2) fun v h3 k2 pv rv b3 => wpAny_pure ?_)
  replace b3 : Heap.SameBut j2 h2 h3 := b3
  refine wpAny_pure (wpAny_pure ?_)
  show wpAny _ _ (newTuple [u, v] >>= _) _ _ ⟨h3, gg, dd, k2, os⟩
  refine wpAny_bind (wpAny_newTuple ?_)
  have sz : h3.objs.size = hp.objs.size := by rw [b3.1, b2.1, b1.1]
  have ez3 : IsZipHeld h3 zz ti to' tt true := b3.extBut _ _ sp.zi2 (b2.extBut _ _ sp.zi1 ez1)
  have kk : ∀ c o, c ≠ zz → c ≠ j1 → c ≠ j2 → hp.get? c = some o → h3.get? c = some o := fun c o c1 c2 c3 e => b3.extBut _ _ c3 (b2.extBut _ _ c2 (b1.extBut _ _ c1 e))
  have qa3 : Sa (i + 1) h3 := Da.over ru b3 sp.sep2_1
  refine wpAny_pure ⟨_, rfl, ?_⟩
  show Q (.ref h3.objs.size) _
  have hp' : IsTupOf2 (h3.push { cls := .type "tuple", data := .seq #[u, v] }) h3.objs.size u v := Heap.get?_push_size _ rfl
  rw [sz] at hp' ⊢
  exact hQ u v _ k2 pu pv (Heap.get?_push_of_some _ ez3) (Da.frame _ _ _ qa3 fun b _ o e => Heap.get?_push_of_some _ e) (Db.frame _ _ _ rv fun b _ o e => Heap.get?_push_of_some _ e) hp' fun c o c1 c2 c3 e => Heap.get?_push_of_some _ (kk c o c1 c2 c3 e)
theorem zh_end {Q : Fin → Shared → Prop} (sp : ZipSep2 zz ti to' j1 j2 fa fb) (Da : Draws prog w A j1 fa m1 Pa Sa) (Db : Draws prog w A j2 fb m2 Pb Sb)
    (ez : IsZipHeld s.heap zz ti to' tt ff) (et : s.heap.get? tt = some ot) (eti : IsTupOf2 s.heap ti (.ref j1) (.ref j2)) (qa : Sa i s.heap) (qb : Sb i s.heap) (hend : i = min m1 m2)
    (hE : ∀ h' tk e, (∀ c o, c ≠ zz → c ≠ j1 → c ≠ j2 → s.heap.get? c = some o → h'.get? c = some o) → (∃ o, h'.get? e = some o ∧ o.cls = .type "StopIteration") → E (.ref e) { s with heap := h', toks := tk }) :
    wpAny (model prog w) A (Builtin.«zip.__next__» ⟨[.ref zz], []⟩) Q E s := by
  obtain ⟨hp, gg, dd, k0, os⟩ := s
  show wpAny _ _ (field (.ref zz) 2 >>= _) _ _ _
  refine wpAny_bind (wpAny_field ez rfl (x := .bool false) rfl ?_)
  show wpAny _ _ (field (.ref zz) 3 >>= _) _ _ _
  refine wpAny_bind (wpAny_field ez rfl (x := .ref ti) rfl ?_)
  refine wpAny_bind (wpAny_seqItems eti rfl ?_)
  show wpAny _ _ (Builtin.SmallTypes.ownedTupleIsFree (.ref zz) >>= _) _ _ _
  refine wpAny_bind (wpAny_tupleHeld_zip ez et fun h1 ez1 b1 => ?_)
  replace b1 : Heap.SameBut zz hp h1 := b1
  simp only [Bool.false_eq_true, if_false]
  refine wpAny_bind ?_
  rw [← Array.forIn_toList]
  simp only [List.forIn_cons, List.forIn_nil]
  refine wpAny_bind (wpAny_bind (wpAny_holding ?_))
  show wpAny _ _ (Builtin.SmallTypes.nextOf (.ref j1) >>= _) _ _ ⟨h1, gg, dd, k0, os⟩
  by_cases la : i < m1
  · refine wpAny_bind (Da.item i _ _ _ la (Da.over qa b1 sp.zf1) fun u h2 k1 pu ru b2 => wpAny_pure ?_)
    replace b2 : Heap.SameBut j1 h1 h2 := b2
    have e2 : i = m2 := by omega
    refine wpAny_pure ?_
    refine wpAny_bind (wpAny_bind (wpAny_holding ?_))
    show wpAny _ _ (Builtin.SmallTypes.nextOf (.ref j2) >>= _) _ _ ⟨h2, gg, dd, k1, os⟩
    refine wpAny_bind (Db.done ⟨h2, gg, dd, k1, os⟩ _ _ (by rw [← e2]; exact Db.over (Db.over qb b1 sp.zf2) b2 sp.sep1_2) fun h3 e b3 he => ?_)
    exact hE h3 k1 e (fun c o c1 c2 c3 x => b3 _ _ c3 (b2.extBut _ _ c2 (b1.extBut _ _ c1 x))) he
  · have e1 : i = m1 := by omega
    refine wpAny_bind (Da.done ⟨h1, gg, dd, k0, os⟩ _ _ (by rw [← e1]; exact Da.over qa b1 sp.zf1) fun h2 e b2 he => ?_)
    exact hE h2 k0 e (fun c o c1 c2 c3 x => b2 _ _ c2 (b1.extBut _ _ c1 x)) he
theorem zh_next {Q : Option Value → Shared → Prop} (sp : ZipSep2 zz ti to' j1 j2 fa fb) (Da : Draws prog w A.in1 j1 fa m1 Pa Sa) (Db : Draws prog w A.in1 j2 fb m2 Pb Sb)
    (ez : IsZipHeld s.heap zz ti to' tt ff) (et : s.heap.get? tt = some ot) (eti : IsTupOf2 s.heap ti (.ref j1) (.ref j2)) (qa : Sa i s.heap) (qb : Sb i s.heap) (la : i < m1) (lb : i < m2)
    (hQ : ∀ u v h' tk, Pa i u → Pb i v → IsZipHeld h' zz ti to' tt true → Sa (i + 1) h' → Sb (i + 1) h' → IsTupOf2 h' s.heap.objs.size u v →
      (∀ c o, c ≠ zz → c ≠ j1 → c ≠ j2 → s.heap.get? c = some o → h'.get? c = some o) → Q (some (.ref s.heap.objs.size)) { s with heap := h', toks := tk }) :
    wpAny (model prog w) A (pyNext (.ref zz)) Q E s := by
  have ty : s.TypeIs (.ref zz) "zip" := ⟨_, ez, rfl⟩
  unfold pyNext
  refine wpAny_bind (wpAny_attempt (wpAny_callSpecial?_slot (name := Str.ofString "__next__") ty F.slot_zip_next (wpAny_call_entry F.slot_zip_next ty F.entry_zip_next ?_ (F.args_zip_next_1 _))))
  exact zh_item sp Da Db ez et eti qa qb la lb fun u v h' tk a1 a2 a3 a4 a5 a6 a7 => wpAny_pure (hQ u v h' tk a1 a2 a3 a4 a5 a6 a7)
theorem zh_stop {Q : Option Value → Shared → Prop} (sp : ZipSep2 zz ti to' j1 j2 fa fb) (Da : Draws prog w A.in1 j1 fa m1 Pa Sa) (Db : Draws prog w A.in1 j2 fb m2 Pb Sb)
    (ez : IsZipHeld s.heap zz ti to' tt ff) (et : s.heap.get? tt = some ot) (eti : IsTupOf2 s.heap ti (.ref j1) (.ref j2)) (qa : Sa i s.heap) (qb : Sb i s.heap) (hend : i = min m1 m2)
    (hQ : ∀ h' tk, (∀ c o, c ≠ zz → c ≠ j1 → c ≠ j2 → s.heap.get? c = some o → h'.get? c = some o) → Q none { s with heap := h', toks := tk }) :
    wpAny (model prog w) A (pyNext (.ref zz)) Q E s := by
  have ty : s.TypeIs (.ref zz) "zip" := ⟨_, ez, rfl⟩
  unfold pyNext
  refine wpAny_bind (wpAny_attempt (wpAny_callSpecial?_slot (name := Str.ofString "__next__") ty F.slot_zip_next (wpAny_call_entry F.slot_zip_next ty F.entry_zip_next ?_ (F.args_zip_next_1 _))))
  refine zh_end sp Da Db ez et eti qa qb hend fun h' tk e hk he => ?_
  obtain ⟨o, ho, hc⟩ := he
  exact wpAny_bind (wpAny_isInstance (T := "StopIteration") (b := true) ⟨o, ho, hc⟩ isSubtype_stop (wpAny_pure (hQ _ _ hk)))
end
/-- the pairs of zip over a list or a tuple each, the cells as zip makes them at N -/
theorem pairs_X {prog : Program} {w : World} (N : Nat) (b1 b2 : Bool) (a1 a2 : Addr) (h1 : a1 < N) (h2 : a2 < N) (xs ys : Array Value) :
    PairArg prog w "zip" (N + 4) [N + 4, N + 2, N + 3, N, N + 1, a1, a2] [N + 4, N + 3, N, N + 1] (min xs.size ys.size) (fun i k v => xs[i]? = some k ∧ ys[i]? = some v)
      (fun h => IsZip h (N + 4) (N + 2) (N + 3) .none ∧ IsTupOf2 h (N + 2) (.ref N) (.ref (N + 1)) ∧ (∃ a b, IsTupOf2 h (N + 3) a b) ∧ ItX b1 h N a1 0 ∧ ItX b2 h (N + 1) a2 0 ∧ SeqX b1 h a1 xs ∧ SeqX b2 h a2 ys) where
  type := fun s ok => ⟨_, ok.1, rfl⟩
  notDict := by decide
  keep := fun h h' ok hk => by
    obtain ⟨q1, q2, ⟨a, b, q3⟩, q4, q5, q6, q7⟩ := ok
    exact ⟨hk _ _ q1, hk _ _ q2, ⟨a, b, hk _ _ q3⟩, q4.at fun o e => hk _ o e, q5.at fun o e => hk _ o e, (begins_X b1 a1 xs).keeps _ _ q6 hk, (begins_X b2 a2 ys).keeps _ _ q7 hk⟩
  there := fun h ok b hb => by
    obtain ⟨q1, q2, ⟨a, c, q3⟩, q4, q5, q6, q7⟩ := ok
    have sq : ∀ {b : Bool} {a : Addr} {us : Array Value}, SeqX b h a us → ∃ o, h.get? a = some o := fun {b a us} x => by
      cases b with
      | true => obtain ⟨o, e, _⟩ := x; exact ⟨o, e⟩
      | false => obtain ⟨o, e, _⟩ := x; exact ⟨o, e⟩
    have e' : b = N + 4 ∨ b = N + 2 ∨ b = N + 3 ∨ b = N ∨ b = N + 1 ∨ b = a1 ∨ b = a2 := by simpa using hb
    rcases e' with q | q | q | q | q | q | q
    · rw [q]; exact ⟨_, q1⟩
    · rw [q]; exact ⟨_, q2⟩
    · rw [q]; exact ⟨_, q3⟩
    · rw [q]; obtain ⟨o, ho, _⟩ := q4.obj; exact ⟨o, ho⟩
    · rw [q]; obtain ⟨o, ho, _⟩ := q5.obj; exact ⟨o, ho⟩
    · rw [q]; exact sq q6
    · rw [q]; exact sq q7
  sub := fun b hb => by
    simp only [List.mem_cons, List.not_mem_nil, or_false] at hb ⊢
    rcases hb with q | q | q | q <;> simp [q]
  noKeys := fun A s Q E hA ok h => getAttrOr_miss_zip ok.1 rfl rfl rfl zip_no_keys (by decide +kernel) hA h
  iter := fun A s d Q E hA ok hd hdf hh => by
    obtain ⟨q1, q2, ⟨a, b, q3⟩, q4, q5, q6, q7⟩ := ok
    simp only [List.mem_cons, List.not_mem_nil, or_false, not_or] at hdf
    obtain ⟨n1, n2, n3, n4, n5, n6, n7⟩ := hdf
    have sp := zip_sep2 (N := N) (fp1 := [a1]) (fp2 := [a2]) (by simpa using h1) (by simpa using h2)
    have Da := draws_X (prog := prog) (w := w) (A := A.in1) hA N a1 (Nat.ne_of_lt h1) xs b1
    have Db := draws_X (prog := prog) (w := w) (A := A.in1) hA (N + 1) a2 (Nat.ne_of_lt (Nat.lt_succ_of_lt h2)) ys b2
    refine wpAny_pyIter_zip q1 (hh (N + 4) [N + 4, N + 3, N, N + 1] (fun i h => IsTupOf2 h (N + 2) (.ref N) (.ref (N + 1)) ∧ (ItX b1 h N a1 i ∧ SeqX b1 h a1 xs) ∧ (ItX b2 h (N + 1) a2 i ∧ SeqX b2 h a2 ys) ∧
      ((IsZip h (N + 4) (N + 2) (N + 3) .none ∧ ∃ a b, IsTupOf2 h (N + 3) a b) ∨ ∃ T f oT, IsZipHeld h (N + 4) (N + 2) (N + 3) T f ∧ h.get? T = some oT ∧ T ≠ N + 4 ∧ T ≠ N ∧ T ≠ N + 1 ∧ T ≠ d)) s.heap s.toks ?_
      ⟨q2, ⟨q4, q6⟩, ⟨q5, q7⟩, .inl ⟨q1, a, b, q3⟩⟩ (fun _ _ e => e) fun b hb => .inl hb)
    refine { off := fun hm => ?_, frame := fun i g1 g2 st hk => ?_, item := fun i s1 Q1 E1 hi st hds hQ => ?_, done := fun s1 Q1 E1 st hQ => ?_ }
    · simp only [List.mem_cons, List.not_mem_nil, or_false] at hm
      rcases hm with e | e | e | e
      · exact n1 e
      · exact n3 e
      · exact n4 e
      · exact n5 e
    · obtain ⟨p2, pa, pb, pz⟩ := st
      refine ⟨hk _ _ (Ne.symm n2) p2, Da.frame _ _ _ pa fun b hb o e => hk b o (fun z => ?_) e, Db.frame _ _ _ pb fun b hb o e => hk b o (fun z => ?_) e, ?_⟩
      · subst z
        simp only [List.mem_cons, List.not_mem_nil, or_false] at hb
        exact hb.elim n4 n6
      · subst z
        simp only [List.mem_cons, List.not_mem_nil, or_false] at hb
        exact hb.elim n5 n7
      · rcases pz with ⟨pz, a, b, pO⟩ | ⟨T, f, oT, pz, pT, r1, r2, r3, r4⟩
        · exact .inl ⟨hk _ _ (Ne.symm n1) pz, a, b, hk _ _ (Ne.symm n3) pO⟩
        · exact .inr ⟨T, f, oT, hk _ _ (Ne.symm n1) pz, hk _ _ r4 pT, r1, r2, r3, r4⟩
    · obtain ⟨p2, pa, pb, pz⟩ := st
      have l1 : i < xs.size := by omega
      have l2 : i < ys.size := by omega
      have lt : ∀ {c o}, s1.heap.get? c = some o → s1.heap.objs.size ≠ c := fun e => Nat.ne_of_gt (Heap.lt_size e)
      have c1 : s1.heap.objs.size ≠ N := by obtain ⟨o, e, _⟩ := pa.1.obj; exact lt e
      have c2 : s1.heap.objs.size ≠ N + 1 := by obtain ⟨o, e, _⟩ := pb.1.obj; exact lt e
      rcases pz with ⟨pz, a, b, pO⟩ | ⟨T, f, oT, pz, pT, r1, r2, r3, r4⟩
      · refine wpAny_pyNext_zipD2_item sp Da Db pz p2 pO pa pb l1 l2 fun u v h' tk pu pv y1 y2 y3 y4 y5 y6 hk => ?_
        refine hQ s1.heap.objs.size u v h' tk ⟨pu, pv⟩ (.inl ⟨_, y5, rfl, _, rfl⟩) ⟨hk _ _ sp.TIz sp.TITO sp.TIi1 sp.TIi2 p2, y3, y4, .inr ⟨s1.heap.objs.size, false, _, y1, y5, lt pz, c1, c2, Nat.ne_of_gt hds⟩⟩ fun c o hc e => ?_
        exact hk c o (fun z => hc (by simp [z])) (fun z => hc (by simp [z])) (fun z => hc (by simp [z])) (fun z => hc (by simp [z])) e
      · refine zh_next sp Da Db pz pT p2 pa pb l1 l2 fun u v h' tk pu pv y1 y3 y4 y5 hk => ?_
        refine hQ s1.heap.objs.size u v h' tk ⟨pu, pv⟩ (.inl ⟨_, y5, rfl, _, rfl⟩) ⟨hk _ _ sp.TIz sp.TIi1 sp.TIi2 p2, y3, y4, .inr ⟨T, true, oT, y1, hk _ _ r1 r2 r3 pT, r1, r2, r3, r4⟩⟩ fun c o hc e => ?_
        exact hk c o (fun z => hc (by simp [z])) (fun z => hc (by simp [z])) (fun z => hc (by simp [z])) e
    · obtain ⟨p2, pa, pb, pz⟩ := st
      rcases pz with ⟨pz, a, b, pO⟩ | ⟨T, f, oT, pz, pT, r1, r2, r3, r4⟩
      · refine wpAny_pyNext_zipD2_end sp Da Db pz p2 pO pa pb (by omega) (by omega) (by omega) fun h' tk hk => hQ h' tk fun c o hc e => ?_
        exact hk c o (fun z => hc (by simp [z])) (fun z => hc (by simp [z])) (fun z => hc (by simp [z])) (fun z => hc (by simp [z])) e
      · refine zh_stop sp Da Db pz pT p2 pa pb rfl fun h' tk hk => hQ h' tk fun c o hc e => ?_
        exact hk c o (fun z => hc (by simp [z])) (fun z => hc (by simp [z])) (fun z => hc (by simp [z])) e
end Z
end

section
set_option Elab.async false
set_option linter.all false
set_option maxRecDepth 100000
set_option maxHeartbeats 4000000
/-! Z, part 28: dict(zip(..)), list(range(..)) as values. -/
namespace Z
open PySem PySem.W PySem.Spec PyProof.Rows L2 PySem.SeqAt
section
variable {W : Wd} {Φ : Fn} {n : Nat} {E : WX} {X : Cx} {T : Tab} {g : Gh} {S : List O} {H : Hp} {pins : List (Addr × Obj)} {σ : L2.St} {s : Shared} {mu : Bool}
variable {a b e : Expr} {la lb : LE} {pos p p2 pos2 : Pos}
def biL (mu : Bool) : Bi := if mu then .listM else .list
def biDc (mu : Bool) : Bi := if mu then .dictM else .dict
theorem rgV_rd : ∀ (lo hi : Int), RDs W g (rng lo hi) (rgV lo hi) := fun lo hi => by
  unfold rng rgV
  refine RDs.of_get (by simp) fun i d v e1 e2 => ?_
  rw [List.getElem?_map] at e1 e2
  obtain ⟨j, hj, rfl⟩ := Option.map_eq_some_iff.mp e1
  rw [hj] at e2
  cases e2
  rfl
theorem lst_fin {Ex : XK} {Q : VK} {ds : List D} {vs : List V} (rs : RS W g S H) (r : RDs W g ds vs) (o : Out W Ex g (biiD (biL mu) ds S) Q) : ds.length ≤ lim ∧ ∀ q, H q = none → Q (.ref q) (upd H q (.lst vs)) := by
  unfold biiD at o
  by_cases h : ds.length ≤ lim
  · rw [if_pos h] at o
    refine ⟨h, fun q hq => ?_⟩
    cases mu with
    | true =>
      obtain ⟨rs', le⟩ := rs.alloc (o := .lst ds) (ho := .lst vs) hq ⟨vs, rfl, r⟩
      exact o _ _ _ le rs' ⟨q, by rw [← rs.len]; simp, rfl⟩
    | false => exact new_lst rs r o q hq
  · rw [if_neg h] at o
    exact o.elim
theorem pe_lrg1Z (c : Cs W Φ n E X) (hg : Gl X "list") (hm : X.mg "list" = none) (hg2 : Gl X "range") (hm2 : X.mg "range" = none) (ha : PE X a (EV W E T Φ la)) (hs : isStar a = false) :
    PE X (.Call (.Name "list" p) [.Call (.Name "range" p2) [a] [] pos2] [] pos) (EV W E T Φ (.bii (biL mu) (.rng (.cons la .nil)))) := by
  refine PE.mono (pe_listRg c.hc hg hm (prg_1 hg2 hm2 ha (starEach_cons hs)) (starEach_cons rfl)) fun σ H Q ⟨g, S, σd, rs, rst, o⟩ => ?_
  simp only [ev] at o
  have o' : Out W (fun c d H => E c d σ H) g ((ev T Φ la σd S).bind fun x S => match rngD [x] with | some xs => biiD (biL mu) xs S | none => .bad) Q := by
    unfold evI at o
    simp only [evs] at o
    cases hx : ev T Φ la σd S with
    | ok x S1 =>
      rw [hx] at o
      simp only [R.bind_ok] at o ⊢
      cases hr : rngD [x] <;> (rw [hr] at o; exact o)
    | err e S1 => rw [hx] at o; exact o
    | bad => rw [hx] at o; exact o
  refine ⟨g, S, σd, rs, rst, OutG.mono (OutG.bind rst o') fun v H1 ⟨g1, S1, d1, le1, rs1, rst1, rd1, o1⟩ => ?_⟩
  dsimp only at o1
  cases d1 with
  | int j =>
    cases rd1
    rw [show rngD [.int j] = if -(2 ^ 62) ≤ j ∧ j < 2 ^ 62 then some (rng 0 j) else none from rfl] at o1
    by_cases hk : -(2 ^ 62) ≤ j ∧ j < 2 ^ 62
    · rw [if_pos hk] at o1
      obtain ⟨h1, h2⟩ := lst_fin rs1 (rgV_rd 0 j) o1
      have hl : (rng 0 j).length = (j - 0).toNat := by simp [rng]
      rw [hl] at h1
      exact ⟨j, rfl, ⟨by decide, by decide, hk.1, hk.2, h1⟩, h2⟩
    · rw [if_neg hk] at o1
      exact o1.elim
  | _ => exact o1.elim
/-! zip as an object -/
def ZOK (N : Nat) (b1 b2 : Bool) (q1 q2 : Addr) (its its' : Array Value) (h : Heap) : Prop :=
  IsZip h (N + 4) (N + 2) (N + 3) .none ∧ IsTupOf2 h (N + 2) (.ref N) (.ref (N + 1)) ∧ (∃ a b, IsTupOf2 h (N + 3) a b) ∧ ItX b1 h N q1 0 ∧ ItX b2 h (N + 1) q2 0 ∧ SeqX b1 h q1 its ∧ SeqX b2 h q2 its'
theorem zip_obj (c : Cs W Φ n E X) (hg : Gl X "zip") (hm : X.mg "zip" = none) (ha : PE X a (EV W E T Φ la)) (hb : PE X b (EV W E T Φ lb)) (hs : isStar a = false) (hs2 : isStar b = false) (I : Inv X pins σ H s) {R : List V → List V → Hp → Prop} {σd : St}
    (rs : RS W g S H) (rst : RSt W g σd σ) (o : OutG W (RDs W) (fun c d H => E c d σ H) g (evs T Φ (.cons la (.cons lb .nil)) σd S) fun vs H1 => ∃ q1 q2 b1 b2 xs ys, vs = [.ref q1, .ref q2] ∧ SqX X.K b1 H1 q1 xs ∧ SqX X.K b2 H1 q2 ys ∧ R xs ys H1) :
    wpAny (model X.prog X.w) X.A (eval (.Call (.Name "zip" p) [a, b] [] pos) X.env) (fun v s1 => ∃ N b1 b2 q1 q2 its its' xs ys H1, v = .ref (N + 4) ∧ q1 < N ∧ q2 < N ∧ ZOK N b1 b2 q1 q2 its.toArray its'.toArray s1.heap ∧ Inv X pins σ H1 s1 ∧ Vals xs its ∧ Vals ys its' ∧
      (∀ c ∈ [N + 4, N + 3, N, N + 1], FpOk X pins H1 c) ∧ R xs ys H1) X.xe s := by
  have hn : noStars [a, b] = true := by unfold noStars; rw [List.all_cons, hs, List.all_cons, hs2]; rfl
  refine Call_ (ld_blt I hg hm PyProof.Rows.boot_zip (callT c hn (thn ((pa_consZ ha (pa_consZ hb pa_nilZ hs2) hs).run pos pins s σ H _ I ⟨g, S, σd, rs, rst, o⟩) fun us s1 ⟨vs, H1, I1, r1, q1, q2, b1, b2, xs, ys, e, hq, hq', q⟩ => ?_)))
  subst e
  cases r1 with
  | cons r rr =>
    cases rr with
    | cons r' rr =>
      cases rr
      cases r
      cases r'
      obtain ⟨its, rv, hseq, hlt⟩ := inv_X I1 hq
      obtain ⟨its', rv', hseq', hlt'⟩ := inv_X I1 hq'
      refine zip_begins2 (begins_X b1 q1 its.toArray) (begins_X b2 q2 its'.toArray) hseq hseq' fun h' hz hTI hTO h1 h2 hsz hk => ?_
      have I2 : Inv X pins σ H1 { s1 with heap := h' } := I1.kept (t' := s1.toks) hk
      refine ⟨s1.heap.objs.size, b1, b2, q1, q2, its, its', xs, ys, H1, rfl, hlt, hlt', ⟨hz, hTI, ⟨_, _, hTO⟩, itX_new h1, itX_new h2, (begins_X b1 q1 _).keeps _ _ hseq hk, (begins_X b2 q2 _).keeps _ _ hseq' hk⟩, I2, rv, rv', fun c hcm => ?_, q⟩
      have hle : s1.heap.objs.size ≤ c := by
        simp only [List.mem_cons, List.not_mem_nil, or_false] at hcm
        rcases hcm with z | z | z | z <;> (rw [z]; first | exact Nat.le_refl _ | exact Nat.le_add_right _ _)
      exact I1.fpOk hle (I1.hok.fresh hle)
theorem paired_zip : ∀ (ks : List Key) {vs : List V} {us : List Value}, Vals vs us → KV (ks.zip vs) (ks.zip us)
  | [], _, _, _ => .nil
  | k :: ks, _, _, .nil => .nil
  | k :: ks, _, _, .cons h t => .cons ⟨rfl, h⟩ (paired_zip ks t)
theorem vals_take : ∀ {vs : List V} {us : List Value}, Vals vs us → ∀ m, Vals (vs.take m) (us.take m)
  | _, _, .nil, m => by simp; exact .nil
  | _, _, .cons h t, 0 => .nil
  | _, _, .cons h t, m + 1 => .cons h (vals_take t m)
theorem dictOf_zip : ∀ (xs ys ks vs : List D) {r : List D × List D}, biiD.dictOf (zip2 xs ys) ks vs = some r → ((xs.take (min xs.length ys.length)).all keyS = true) ∧ r = dputs ks vs (xs.take (min xs.length ys.length)) (ys.take (min xs.length ys.length))
  | [], ys, ks, vs, r, h => by
    simp only [zip2, biiD.dictOf] at h
    cases h
    simp [dputs]
  | x :: xs, [], ks, vs, r, h => by
    simp only [zip2, biiD.dictOf] at h
    cases h
    simp [dputs]
  | x :: xs, y :: ys, ks, vs, r, h => by
    simp only [zip2, biiD.dictOf] at h
    split at h
    · rename_i hk
      obtain ⟨h1, h2⟩ := dictOf_zip xs ys _ _ h
      have hx : keyS x = true := by
        unfold okKey at hk
        exact (Bool.and_eq_true_iff.mp hk).1
      have e : min (x :: xs).length (y :: ys).length = min xs.length ys.length + 1 := by
        simp only [List.length_cons]
        omega
      rw [e, List.take_succ_cons, List.take_succ_cons]
      exact ⟨by rw [List.all_cons, hx, h1]; rfl, h2⟩
    · cases h
theorem pe_dzipZ (c : Cs W Φ n E X) (hg : Gl X "dict") (hm : X.mg "dict" = none) (hg2 : Gl X "zip") (hm2 : X.mg "zip" = none) (ha : PE X a (EV W E T Φ la)) (hb : PE X b (EV W E T Φ lb)) (hs : isStar a = false) (hs2 : isStar b = false) :
    PE X (.Call (.Name "dict" p) [.Call (.Name "zip" p2) [a, b] [] pos2] [] pos) (EV W E T Φ (.bii (biDc mu) (.zip (.cons la (.cons lb .nil))))) := by
  refine ⟨fun pins s σ H Q I ⟨g, S, σd, rs, rst, o⟩ => ?_⟩
  simp only [ev] at o
  have o' : Out W (fun c d H => E c d σ H) g ((evs T Φ (.cons la (.cons lb .nil)) σd S).bind fun ds S => match zipD S ds with | some xs => biiD (biDc mu) xs S | none => .bad) Q := by
    unfold evI at o
    cases hx : evs T Φ (.cons la (.cons lb .nil)) σd S with
    | ok ds S1 =>
      rw [hx] at o
      simp only [R.bind_ok] at o ⊢
      cases hr : zipD S1 ds <;> (rw [hr] at o; exact o)
    | err e S1 => rw [hx] at o; exact o
    | bad => rw [hx] at o; exact o
  have hlen : ∀ ds S1, evs T Φ (.cons la (.cons lb .nil)) σd S = .ok ds S1 → ∃ x y, ds = [x, y] := fun ds S1 h => evs_two h
  refine Call_ (ld_blt I hg hm boot_dict (PyProof.Rows.callWith_type1 (args_cons (thn (zip_obj (R := fun xs ys H1 => ∃ g1 S1 dx dy, RS W g1 S1 H1 ∧ RDs W g1 dx xs ∧ RDs W g1 dy ys ∧ Out W (fun c d H => E c d σ H) g1 (biiD (biDc mu) (zip2 dx dy) S1) Q) c hg2 hm2 ha hb hs hs2 I rs rst ?_)
    fun v s1 ⟨N, b1, b2, q1, q2, its, its', xs, ys, H1, ev, l1, l2, ok, I1, r1, r2, hf, g1, S1, dx, dy, rs1, rd1, rd2, o1⟩ => args_nil ?_) (starEach_cons rfl)) (starEach_cons rfl)))
  · cases hx : evs T Φ (.cons la (.cons lb .nil)) σd S with
    | ok ds S1 =>
      rw [hx] at o'
      simp only [R.bind_ok] at o'
      obtain ⟨x, y, rfl⟩ := hlen ds S1 hx
      intro g' H' vs le rs' rd
      obtain ⟨v, w, rfl, rv, rw'⟩ := rd.two
      cases h1 : items? S1 x with
      | none => rw [show zipD S1 [x, y] = none by simp [zipD, h1]] at o'; exact o'.elim
      | some dx =>
        cases h2 : items? S1 y with
        | none => rw [show zipD S1 [x, y] = none by simp [zipD, h1, h2]] at o'; exact o'.elim
        | some dy =>
          rw [show zipD S1 [x, y] = some (zip2 dx dy) by simp [zipD, h1, h2]] at o'
          obtain ⟨q, b1, rfl, src⟩ := walk_X rv h1
          obtain ⟨q', b2, rfl, src'⟩ := walk_X rw' h2
          obtain ⟨zs, hq, r1⟩ := src g' S1 H' Le.rfl' rs' (fun _ _ => rfl)
          obtain ⟨zs', hq', r2⟩ := src' g' S1 H' Le.rfl' rs' (fun _ _ => rfl)
          exact ⟨q, q', b1, b2, zs, zs', rfl, by rw [c.K]; exact hq, by rw [c.K]; exact hq', g', S1, dx, dy, rs', r1, r2, OutG.le le o'⟩
    | err e S1 => rw [hx] at o'; exact o'
    | bad => rw [hx] at o'; exact o'
  · subst ev
    have hl1 := r1.length
    have hl2 := r2.length
    have hd1 := rd1.length
    have hd2 := rd2.length
    unfold biiD at o1
    by_cases hlim : (zip2 dx dy).length ≤ lim
    case neg =>
      rw [if_neg hlim] at o1
      exact o1.elim
    rw [if_pos hlim] at o1
    rw [zip2_len] at hlim
    obtain ⟨r, hr⟩ : ∃ r, biiD.dictOf (zip2 dx dy) [] [] = some r := by
      cases hr : biiD.dictOf (zip2 dx dy) [] [] with
      | some r => exact ⟨r, rfl⟩
      | none => cases mu <;> (simp only [biDc, hr] at o1; exact o1.elim)
    obtain ⟨hall, er⟩ := dictOf_zip _ _ _ _ hr
    have hm1 : min dx.length dy.length ≤ dx.length := Nat.min_le_left ..
    have hm2' : min dx.length dy.length ≤ dy.length := Nat.min_le_right ..
    generalize hmn : min dx.length dy.length = m at *
    have kr0 : KRel W g1 (dx.take m) (dy.take m) (((dx.take m).map toKey).zip (ys.take m)) := krel_zip hall (by rw [List.length_take, List.length_take]; omega) (rd2.take m)
    have kv0 : KV (((dx.take m).map toKey).zip (ys.take m)) (((dx.take m).map toKey).zip (its'.take m)) := by
      refine paired_zip _ (vals_take r2 m)
    have kr : KRel W g1 r.1 r.2 (mergedV [] (((dx.take m).map toKey).zip (ys.take m))) := by rw [er]; exact krel_merged kr0 ⟨rfl, rfl, rfl⟩
    have kv : KV (mergedV [] (((dx.take m).map toKey).zip (ys.take m))) (merged [] (((dx.take m).map toKey).zip (its'.take m))) := kv_merged kv0 .nil
    have hsz : min its.toArray.size its'.toArray.size = m := by
      rw [List.size_toArray, List.size_toArray]
      omega
    have ph : PairsHave (mixKind X.prog X.w) (min its.toArray.size its'.toArray.size) (fun i k v => its.toArray[i]? = some k ∧ its'.toArray[i]? = some v) (((dx.take m).map toKey).zip (its'.take m)) := by
      refine ⟨?_, fun i key v ⟨e1, e2⟩ => ?_⟩
      · rw [List.length_zip, List.length_map, List.length_take, List.length_take, List.size_toArray, List.size_toArray]
        omega
      · rw [List.getElem?_toArray] at e1 e2
        have i1 : i < its.length := (List.getElem?_eq_some_iff.mp e1).1
        have i2 : i < its'.length := (List.getElem?_eq_some_iff.mp e2).1
        have him : i < m := by omega
        have id : i < dx.length := by omega
        obtain ⟨x, hx, rx⟩ := rd1.at id
        obtain ⟨u, hu, ru⟩ := r1.get hx
        rw [e1] at hu
        cases hu
        have hk : keyS dx[i] = true := List.all_eq_true.mp hall _ (by
          refine List.mem_iff_getElem?.mpr ⟨i, ?_⟩
          rw [List.getElem?_take, if_pos him]
          exact List.getElem?_eq_getElem id)
        refine ⟨toKey dx[i], ?_, ?_⟩
        · rw [List.getElem?_zip_eq_some]
          refine ⟨?_, ?_⟩
          · rw [List.getElem?_map, List.getElem?_take, if_pos him, List.getElem?_eq_getElem id]
            rfl
          · rw [List.getElem?_take, if_pos him]
            exact e2
        · refine kV_is ?_
          rw [← rd_key hk rx]
          exact ru
    refine PySem.call_dict_pairs (pairs_X N b1 b2 q1 q2 l1 l2 its.toArray its'.toArray) (I1.ok.hd c.hc) ok ph (by rw [hsz, ← lim_eq]; exact hlim) fun h' tk hd' hk => ?_
    have hml : (mergedV [] (((dx.take m).map toKey).zip (ys.take m))).length ≤ sizeLine := by
      have := merged_len (((dx.take m).map toKey).zip (ys.take m)) []
      rw [List.length_zip, List.length_map, List.length_take, List.length_take, List.length_nil] at this
      rw [← lim_eq]
      omega
    have hp : H1 s1.heap.objs.size = none := I1.hok.fresh (Nat.le_refl _)
    have I2 : Inv X pins σ (upd H1 s1.heap.objs.size (.dK (mergedV [] (((dx.take m).map toKey).zip (ys.take m))))) { s1 with heap := h', toks := tk } :=
      I1.turnedNew (ch := [N + 4, N + 3, N, N + 1]) hk hf (Nat.le_refl _) (dk_new hml (beq_eq_false_iff_ne.mpr (Ne.symm (Nat.ne_of_lt I1.big))) kv hd')
    refine ⟨.ref s1.heap.objs.size, _, I2, rfl, ?_⟩
    cases mu with
    | true =>
      simp only [biDc, hr, if_true] at o1
      obtain ⟨rs', le⟩ := rs1.alloc (o := .dct r.1 r.2) (ho := .dK (mergedV [] (((dx.take m).map toKey).zip (ys.take m)))) hp (kr.ro _)
      exact o1 _ _ _ le rs' ⟨s1.heap.objs.size, by rw [← rs1.len]; simp, rfl⟩
    | false =>
      simp only [biDc, hr] at o1
      obtain ⟨rs', le⟩ := rs1.laid (o := .dK (mergedV [] (((dx.take m).map toKey).zip (ys.take m)))) hp
      exact o1 _ _ _ le rs' ⟨s1.heap.objs.size, _, _, _, rfl, by exact upd_same, kr.obj _, kr.fk.mono le.to0, kr.fv.mono le.to0⟩
end
end Z
end

section
set_option Elab.async false
set_option linter.all false
set_option maxRecDepth 100000
set_option maxHeartbeats 4000000
/-! Z, part 29: name = {k: v for ..} on one line. -/
namespace Z
open PySem PySem.W PySem.Spec PyProof.Rows L2 PySem.SeqAt
section
variable {W : Wd} {Φ : Fn} {n : Nat} {E : WX} {X : Cx} {T : Tab} {t : LT} {lk l : LE} {li : LI} {lo : LO} {mu : Bool}
theorem ps_dcZ {Wf i : Nat} {y : PySem.Str} {py spos : Pos} {kx vx tg it : Expr} {ifs : List Expr} {scope : Scope} {own : List (PySem.Str × Nat)} {pos : Pos} (c : Cs W Φ n E X) (hy : X.N[i]? = some y) (hyl : X.env.scope.names.lookup y = some .local)
    (hsw : swapsWith (.DictComp kx vx [⟨tg, it, ifs, 0⟩] scope pos) (some (.Name y py)) spos.line X.env = pure true) (hi : PI X tg it (tEvI W t E (evI T Φ li))) (ok : BlkOk X.N X.env.scope scope own)
    (hg : ∀ (s : Shared) (H : Hp) (C : Addr) (cl : List (PySem.Str × Addr)) (fp : List Addr), PG (X.blk s H scope (compEnvC scope cl C X.env) fp) tg (tPut W t))
    (ht : ∀ (s : Shared) (H : Hp) (C : Addr) (cl : List (PySem.Str × Addr)) (fp : List Addr), PTs (X.blk s H scope (compEnvC scope cl C X.env) fp) ifs (tEvB W E0 (evT T Φ lo)))
    (hk : ∀ (s : Shared) (H : Hp) (C : Addr) (cl : List (PySem.Str × Addr)) (fp : List Addr), PE (X.blk s H scope (compEnvC scope cl C X.env) fp) kx (EV W E0 T Φ lk))
    (he : ∀ (s : Shared) (H : Hp) (C : Addr) (cl : List (PySem.Str × Addr)) (fp : List Addr), PE (X.blk s H scope (compEnvC scope cl C X.env) fp) vx (EV W E0 T Φ l))
    (hs : ∀ x, foldedSetIterable it X.env x = pure x) (hsl : ∀ j ∈ t.slots, j ∈ own.map (·.2)) : PS X (.Assign [.Name y py] (.DictComp kx vx [⟨tg, it, ifs, 0⟩] scope pos) spos) (EX W E T Φ Wf (.asg (.nm i) (.dc mu lk l t li lo (own.map (·.2))))) := by
  refine ⟨fun pins s σ H D I ⟨g, S, σd, rs, rst, o⟩ => ?_⟩
  rw [exec_Assign_Name_used _ _ _ _ hsw]
  refine wpAny_bind (wpAny_standAt (wpAny_bind ?_))
  show wpAny _ X.A (do let _ ← comprehension (.DictComp kx vx [⟨tg, it, ifs, 0⟩] scope pos) scope X.env (firstIterPos [⟨tg, it, ifs, 0⟩] pos) newDict false (eval it X.env) (some (assign (.Name y py) X.env))) _ _ s
  simp only [ex] at o
  have hr : tDcS (rDSt W) (tEvI W t E (evI T Φ li)) (tPut W t) (tEvB W E0 (evT T Φ lo)) (EV W E0 T Φ lk) (EV W E0 T Φ l) (own.map (·.2)) σ H (fun x H1 => D.nx (σ.set i (some x)) H1) := by
    refine dc_read (mu := mu) hsl ⟨g, S, σd, rs, rst, OutG.mono (OutF.bs rst o) fun x H1 ⟨g1, S1, d1, le1, rs1, rst1, rd1, o1⟩ => ?_⟩
    exact o1 g1 H1 _ Le.rfl' rs1 (rst_set rst1 rd1 (by rw [I.len]; exact (List.getElem?_eq_some_iff.mp hy).1))
  refine wpAny_bind (thn (dcS_eval (Qf := fun _ s' => SP X pins D .next s') c.hc c.nd I hi ok hg ht hk he (fun s H C cl fp => rDSt_ok c.p c.w c.K c.hu) hs hr fun L C s' m H' I' q hn f => ?_) fun _ s' hq => wpAny_pure (wpAny_pure hq))
  show wpAny _ _ (assign (.Name y py) X.env (.ref L)) _ _ _
  refine wpAny_assign_Name (store_ok2 (v := V.ref L) I' c.nd hy (.inl hyl) rfl (fun s2 I2 ⟨a, sb, ha⟩ => ?_) (.inr hyl))
  obtain ⟨f0, f1, f2, f3, f4, f5⟩ := f
  have apart : C ≠ a := by
    rcases ha with z | z
    · rw [z]; exact f1
    · exact fun e => f4 y a z e.symm
  refine ⟨m, hn.sameBut sb apart, fun h3 sb3 => ?_⟩
  exact ⟨_, H', I2.turned (t' := s2.toks) (fun b o hb e => (sb3.2 b hb).trans e) f0 f1 f3 f4 f5, q⟩
end
end Z
end

section
set_option Elab.async false
set_option linter.all false
set_option maxRecDepth 100000
set_option maxHeartbeats 4000000
/-! Z, part 30: from the text's tree to the small language. -/
namespace Z
open PySem PySem.W PySem.Spec PyProof.Rows L2 PySem.SeqAt
/-- what names stand for in a def -/
structure Gm where
  N : List PySem.Str
  fnN : List (PySem.Str × Nat)
  clN : List (PySem.Str × Nat)
  atN : List (PySem.Str × Nat)
  cst : List (PySem.Str × D)
  blt : List PySem.Str
  mus : List (Nat × Nat)
def ixOf : List PySem.Str → PySem.Str → Option Nat
  | [], _ => none
  | y :: r, x => if y == x then some 0 else (ixOf r x).map (· + 1)
def visB (sc : Scope) (x : PySem.Str) : Bool := match sc.names.lookup x with
  | some .local => true
  | some .cell => true
  | some .free => true
  | _ => false
def ownB (sc : Scope) (x : PySem.Str) : Bool := match sc.names.lookup x with
  | some .local => true
  | some .cell => true
  | _ => false
def locB (sc : Scope) (x : PySem.Str) : Bool := match sc.names.lookup x with
  | some .local => true
  | _ => false
def gloB (sc : Scope) (x : PySem.Str) : Bool := match sc.names.lookup x with
  | some .globalImplicit => true
  | _ => false
def dbgB (x : PySem.Str) : Bool := x == ("__debug__" : PySem.Str) || x == ("__classdict__" : PySem.Str)
def biTab : List (PySem.Str × Bi) := [("len", .len), ("all", .all), ("any", .any), ("abs", .abs), ("min", .min), ("max", .max), ("sorted", .sorted), ("repr", .repr), ("int", .int), ("tuple", .tuple), ("isinstance", .isinstance), ("str", .str), ("ValueError", .valueError)]
def tyTab : List (PySem.Str × Ty) := [("int", .int), ("str", .str), ("bool", .bool), ("tuple", .tuple), ("list", .list), ("dict", .dict), ("ValueError", .valueError)]
def bmTab : List (PySem.Str × Bm) := [("append", .append), ("extend", .extend), ("pop", .pop), ("split", .split), ("join", .join), ("setdefault", .setdefault), ("get", .get), ("index", .index), ("update", .update)]
def cstD : Const → Option D
  | .none => some .non
  | .bool b => some (.bl b)
  | .int i => some (.int i)
  | .str s => some (.str s)
  | _ => none
mutual
def toTg (own : PySem.Str → Bool) (N : List PySem.Str) : Nat → Expr → Option LT
  | 0, _ => none
  | _ + 1, .Name x _ => if own x then (ixOf N x).map .nm else none
  | k + 1, .Tuple es _ _ => (toTgs own N k es).map .tp
  | _ + 1, _ => none
def toTgs (own : PySem.Str → Bool) (N : List PySem.Str) : Nat → List Expr → Option LTs
  | _, [] => some .nil
  | 0, _ => none
  | k + 1, e :: es => if isStar e then none else match toTg own N k e, toTgs own N k es with
    | some t, some ts => some (.cons t ts)
    | _, _ => none
end
def esL (f : Expr → LE) : List Expr → LEs
  | [] => .nil
  | .Starred e _ :: es => .star (f e) (esL f es)
  | e :: es => .cons (f e) (esL f es)
def oL (f : Expr → LE) : Option Expr → LO
  | none => .no
  | some e => .some (f e)
/-- a dict display's keys, all constants -/
def keysD : List (Option Expr) → Option (List D)
  | [] => some []
  | some (.Constant c _ _) :: r => match cstD c, keysD r with
    | some d, some ds => if keyS d then some (d :: ds) else none
    | _, _ => none
  | _ => none
def notSet : Expr → Bool
  | .Set _ _ _ => false
  | _ => true
def notSlice : Expr → Bool
  | .Slice _ _ _ _ => false
  | _ => true
def isTup : Expr → Bool
  | .Tuple _ _ _ => true
  | _ => false
def notCall : Expr → Bool
  | .Call (.Name _ _) [] [] _ => false
  | _ => true
def notComp : Expr → Bool
  | .ListComp _ _ _ _ => false
  | .SetComp _ _ _ _ => false
  | .DictComp _ _ _ _ _ => false
  | _ => true
def ownOf (N : List PySem.Str) : List (PySem.Str × NameKind) → List (PySem.Str × Nat)
  | [] => []
  | (x, .local) :: r => match ixOf N x with
    | some i => (x, i) :: ownOf N r
    | none => ownOf N r
  | (x, .cell) :: r => match ixOf N x with
    | some i => (x, i) :: ownOf N r
    | none => ownOf N r
  | _ :: r => ownOf N r
def muAt (Γ : Gm) (p : Pos) : Bool := Γ.mus.contains (p.line, p.col)
/-- a comprehension's parts: its own scope, its target, its walk, its test -/
def isB (f : PySem.Str) (Γ : Gm) (sc : Scope) : Bool := gloB sc f && Γ.blt.contains f
def toI (ge : Expr → LE) (Γ : Gm) (sc : Scope) (tg : Expr) (it : Expr) : LI := match it with
  | .Call (.Name x p) [a] [] q =>
    if x == "range" && isB x Γ sc && !isStar a then .rng (.cons (ge a) .nil)
    else if x == "enumerate" && isB x Γ sc && !isStar a && isTup tg then .enm (ge a) else .val (ge it)
  | .Call (.Name x p) [a, b] [] q =>
    if x == "range" && isB x Γ sc && !isStar a && !isStar b then .rng (.cons (ge a) (.cons (ge b) .nil))
    else if x == "zip" && isB x Γ sc && !isStar a && !isStar b && isTup tg then .zip (.cons (ge a) (.cons (ge b) .nil)) else .val (ge it)
  | .Call (.Name x p) [a, b, c] [] q =>
    if x == "range" && isB x Γ sc && !isStar a && !isStar b && !isStar c then .rng (.cons (ge a) (.cons (ge b) (.cons (ge c) .nil)))
    else if x == "zip" && isB x Γ sc && !isStar a && !isStar b && !isStar c && isTup tg then .zip (.cons (ge a) (.cons (ge b) (.cons (ge c) .nil))) else .val (ge it)
  | e => .val (ge e)
def toB (ge : Expr → LE) : List Expr → Option LO
  | [] => some .no
  | [c] => some (.some (ge c))
  | _ => none
/-- a call by name -/
def toCall (ge : Expr → LE) (Γ : Gm) (sc : Scope) (x : PySem.Str) (args : List Expr) (p : Pos) : LE :=
  if gloB sc x && !dbgB x then match Γ.fnN.lookup x with
    | some f => if noStars args then .call f (esL ge args) else .nev
    | none => match Γ.clN.lookup x with
      | some c => if noStars args then .new c (esL ge args) else .nev
      | none => if Γ.blt.contains x then
          (match biTab.lookup x with
          | some f => if noStars args then .bi f (esL ge args) else .nev
          | none => if x == "list" then (match args with
              | [.Call (.Name y q) [a] [] r] => if y == "range" && isB y Γ sc && !isStar a then .bii (biL (muAt Γ p)) (.rng (.cons (ge a) .nil)) else .bi (biL (muAt Γ p)) (esL ge args)
              | _ => if noStars args then .bi (biL (muAt Γ p)) (esL ge args) else .nev)
            else if x == "dict" then (match args with
              | [.Call (.Name y q) [a, b] [] r] => if y == "zip" && isB y Γ sc && !isStar a && !isStar b then .bii (biDc (muAt Γ p)) (.zip (.cons (ge a) (.cons (ge b) .nil))) else .nev
              | _ => .nev)
            else .nev)
        else .nev
  else .nev
def toName (Γ : Gm) (sc : Scope) (x : PySem.Str) : LE :=
  if dbgB x then .nev
  else if visB sc x then (match ixOf Γ.N x with
    | some i => .var i
    | none => .nev)
  else if gloB sc x then (match Γ.cst.lookup x with
    | some d => .cst d
    | none => match Γ.clN.lookup x with
      | some c => .cst (.cls c)
      | none => if Γ.blt.contains x then (match tyTab.lookup x with
          | some t => .cst (.ty t)
          | none => .nev) else .nev)
  else .nev
def toE (Γ : Gm) : Nat → Scope → Expr → LE
  | 0, _, _ => .nev
  | k + 1, sc, e => match e with
    | .Name x _ => toName Γ sc x
    | .Constant c _ _ => (match cstD c with
      | some d => .cst d
      | none => .nev)
    | .BinOp a op b _ => .bin op (toE Γ k sc a) (toE Γ k sc b)
    | .UnaryOp .USub a _ => .neg (toE Γ k sc a)
    | .UnaryOp .Not a _ => .not (toE Γ k sc a)
    | .Compare a [op] [b] _ => if behindInMarks op b then .nev else .cmp op (toE Γ k sc a) (toE Γ k sc b)
    | .Compare a [o1, o2] [b, c] _ => if lastMarks [o1, o2] [b, c] then .nev else .chn o1 o2 (toE Γ k sc a) (toE Γ k sc b) (toE Γ k sc c)
    | .BoolOp _ [a] _ => toE Γ k sc a
    | .BoolOp .And (a :: b :: r) p => .and (toE Γ k sc a) (toE Γ k sc (.BoolOp .And (b :: r) p))
    | .BoolOp .Or (a :: b :: r) p => .or (toE Γ k sc a) (toE Γ k sc (.BoolOp .Or (b :: r) p))
    | .IfExp c a b _ => .ite (toE Γ k sc c) (toE Γ k sc a) (toE Γ k sc b)
    | .Tuple es _ _ => .tup (esL (toE Γ k sc) es)
    | .List es p => .lst (muAt Γ p) (esL (toE Γ k sc) es)
    | .Dict keys vals p => (match keysD keys with
      | some ds => if keys.length == vals.length && vals.length ≤ 15 && noStars vals then .dct (muAt Γ p) (csts ds) (lesOf (vals.map (toE Γ k sc))) else .nev
      | none => (match keys, vals with
        | [some ke], [ve] => .dct (muAt Γ p) (.cons (toE Γ k sc ke) .nil) (.cons (toE Γ k sc ve) .nil)
        | _, _ => .nev))
    | .ListComp el [⟨tg, it, ifs, 0⟩] scope p =>
      (match toTg (ownB scope) Γ.N 20 tg, toB (toE Γ k (relS scope sc)) ifs with
      | some t, some lo => if notSet it && blkC Γ.N sc scope (ownOf Γ.N scope.names) && t.slots.all (fun j => ((ownOf Γ.N scope.names).map (·.2)).contains j) then
          .lc (muAt Γ p) (toE Γ k (relS scope sc) el) t (toI (toE Γ k sc) Γ sc tg it) lo ((ownOf Γ.N scope.names).map (·.2)) else .nev
      | _, _ => .nev)
    | .DictComp ke el [⟨tg, it, ifs, 0⟩] scope p =>
      (match toTg (ownB scope) Γ.N 20 tg, toB (toE Γ k (relS scope sc)) ifs with
      | some t, some lo => if notSet it && blkC Γ.N sc scope (ownOf Γ.N scope.names) && t.slots.all (fun j => ((ownOf Γ.N scope.names).map (·.2)).contains j) then
          .dc (muAt Γ p) (toE Γ k (relS scope sc) ke) (toE Γ k (relS scope sc) el) t (toI (toE Γ k sc) Γ sc tg it) lo ((ownOf Γ.N scope.names).map (·.2)) else .nev
      | _, _ => .nev)
    | .Call (.Name x _) args [] p => toCall (toE Γ k sc) Γ sc x args p
    | .Call (.Attribute o m ap) args [] p => if noStars args && args.length < 30 && ap.endLine == p.line && notCall o then
        .mth (toE Γ k sc o) (bmTab.lookup m) (Γ.atN.lookup m) (esL (toE Γ k sc) args) else .nev
    | .Attribute o m _ => (match Γ.atN.lookup m with
      | some f => if notCall o then .atr (toE Γ k sc o) f else .nev
      | none => .nev)
    | .Subscript a (.Slice lo hi none _) _ => .slc (toE Γ k sc a) (oL (toE Γ k sc) lo) (oL (toE Γ k sc) hi) none
    | .Subscript a i _ => if notSlice i then .idx (toE Γ k sc a) (toE Γ k sc i) else .nev
    | _ => .nev
/-- name = comprehension on one line -/
def swB (sc : Scope) (y : PySem.Str) (py pos : Pos) (scope : Scope) : Bool := locB sc y && py.line == pos.line && !(scope.names.any fun (n, k) => n == y && (k == .local || k == .cell))
def ssL (f : Stmt → LS) : List Stmt → LSs
  | [] => .nil
  | s :: ss => .cons (f s) (ssL f ss)
/-- two names at once -/
def parB (sc : Scope) (x y : PySem.Str) (px py : Pos) (a b : Expr) : Bool := locB sc x && locB sc y && px.line == py.line && !(x == y) && !isStar a && !isStar b && !(foldedForSure 8 a && foldedForSure 8 b) && !(constantsAlone 8 a && constantsAlone 8 b)
/-- they are surely not stored so -/
def noparB (sc : Scope) (ts : List Expr) (v : Expr) : Bool := match v with
  | .Tuple vs _ _ => vs.length != ts.length || !(ts.length == 2 || ts.length == 3) || ts.any fun t => match t with
      | .Name x _ => !locB sc x
      | _ => true
  | _ => true
def toS (Γ : Gm) (sc : Scope) : Nat → Stmt → LS
  | 0, _ => .nev
  | k + 1, st => match st with
    | .Expr e _ => if notComp e then .exp (toE Γ k sc e) else .nev
    | .Return none _ => .rtn
    | .Return (some e) _ => .ret (toE Γ k sc e)
    | .Pass _ => .pas
    | .Assign [.Name y py] (.ListComp el gs scope p) _ => (match ixOf Γ.N y with
      | some i => if ownB sc y then (if swB sc y py p scope then (match gs with
          | [⟨tg, it, ifs, 0⟩] => .asg (.nm i) (toE Γ k sc (.ListComp el [⟨tg, it, ifs, 0⟩] scope p))
          | _ => .nev) else .asg (.nm i) (toE Γ k sc (.ListComp el gs scope p))) else .nev
      | none => .nev)
    | .Assign [.Name y py] (.DictComp ke el gs scope p) _ => (match ixOf Γ.N y with
      | some i => if ownB sc y then (if swB sc y py p scope then (match gs with
          | [⟨tg, it, ifs, 0⟩] => .asg (.nm i) (toE Γ k sc (.DictComp ke el [⟨tg, it, ifs, 0⟩] scope p))
          | _ => .nev) else .asg (.nm i) (toE Γ k sc (.DictComp ke el gs scope p))) else .nev
      | none => .nev)
    | .Assign [.Name y py] e _ => (match ixOf Γ.N y with
      | some i => if ownB sc y && notComp e then .asg (.nm i) (toE Γ k sc e) else .nev
      | none => .nev)
    | .Assign [.Attribute o m _] e _ => (match Γ.atN.lookup m with
      | some f => .asa (toE Γ k sc o) f (toE Γ k sc e)
      | none => .nev)
    | .Assign [.Subscript o i _] e _ => if notComp e && notSlice i then .asi (toE Γ k sc o) (toE Γ k sc i) (toE Γ k sc e) else .nev
    | .Assign [.Tuple ts n p] e q => (match ts, e with
      | [.Name x px, .Name y py], .Tuple [a, b] _ _ => (match ixOf Γ.N x, ixOf Γ.N y with
        | some i, some j => if parB sc x y px py a b then .asg (.tp (.cons (.nm i) (.cons (.nm j) .nil))) (.tup (.cons (toE Γ k sc a) (.cons (toE Γ k sc b) .nil)))
            else if noparB sc ts e && ownB sc x && ownB sc y then .asg (.tp (.cons (.nm i) (.cons (.nm j) .nil))) (toE Γ k sc e) else .nev
        | _, _ => .nev)
      | ts, e => (match toTg (ownB sc) Γ.N 20 (.Tuple ts n p) with
        | some t => if noparB sc ts e && notComp e then .asg t (toE Γ k sc e) else .nev
        | none => .nev))
    | .AugAssign (.Name x _) op e _ => (match ixOf Γ.N x with
      | some i => if ownB sc x && (op == .Add || op == .Sub) then .aug i op (toE Γ k sc e) else .nev
      | none => .nev)
    | .If c a b _ => .ifs (toE Γ k sc c) (ssL (toS Γ sc k) a) (ssL (toS Γ sc k) b)
    | .For tg it b [] _ => (match toTg (ownB sc) Γ.N 20 tg with
      | some t => if notSet it then .fors t (toI (toE Γ k sc) Γ sc tg it) (ssL (toS Γ sc k) b) else .nev
      | none => .nev)
    | .While c b [] _ => .whl (toE Γ k sc c) (ssL (toS Γ sc k) b)
    | _ => .nev
end Z
end

section
set_option Elab.async false
set_option linter.all false
set_option maxRecDepth 100000
set_option maxHeartbeats 4000000
/-! Z, part 31: the translation is sound. -/
namespace Z
open PySem PySem.W PySem.Spec PyProof.Rows L2 PySem.SeqAt
structure Gok (W : Wd) (Γ : Gm) : Prop where
  fn : ∀ x f, Γ.fnN.lookup x = some f → W.mg x = some (.ref (W.fnA f)) ∧ PySem.W.keepIn W.K (.ref (W.fnA f)) = true
  cl : ∀ x c, Γ.clN.lookup x = some c → W.mg x = some (.ref (W.clA c)) ∧ PySem.W.keepIn W.K (.ref (W.clA c)) = true
  at_ : ∀ x f, Γ.atN.lookup x = some f → W.fld f = x
  cst : ∀ x d, Γ.cst.lookup x = some d → ∃ u v, W.mg x = some u ∧ RelV v u ∧ ∀ g, RD W g d v
  blt : ∀ x, Γ.blt.contains x = true → W.mg x = none
/-- where a text stands -/
structure At (W : Wd) (Φ : Fn) (n : Nat) (Γ : Gm) (sc : Scope) (E : WX) (X : Cx) : Prop where
  c : Cs W Φ n E X
  s : X.env.scope = sc
  N : X.N = Γ.N
structure OkE (W : Wd) (E : WX) (T : Tab) (Φ : Fn) (X : Cx) (e : Expr) (l : LE) : Prop where
  pe : PE X e (EV W E T Φ l)
  pt : PT X e (EVb W E T Φ l)
  pw : ∀ op vs p, e = .BoolOp op vs p → PW X e (EVb W E T Φ l)
section
variable {W : Wd} {Φ : Fn} {n : Nat} {E : WX} {X : Cx} {T : Tab} {Γ : Gm} {sc : Scope} {g : Gh} {S : List O} {H : Hp}
variable {a b e d : Expr} {la lb lc l : LE} {pos p p2 : Pos} {args : List Expr} {x : PySem.Str}
theorem OkE.nev : OkE W E T Φ X e .nev := ⟨pe_nevZ, ⟨fun pins s σ H Q I ⟨g, S, σd, rs, rst, o⟩ => by unfold tst at o; simp only [ev] at o; exact o.elim⟩, fun _ _ _ _ => ⟨fun wh pins s σ H Q I ⟨g, S, σd, rs, rst, o⟩ => by unfold tst at o; simp only [ev] at o; exact o.elim⟩⟩
theorem OkE.plain (c : Cs W Φ n E X) (h : PE X e (EV W E T Φ l)) (he : ∀ whole, isTrue e X.env whole = (do let v ← whole; standAt e.pos; holding [v] (truthy v))) (hb : ∀ op vs p, e ≠ .BoolOp op vs p) : OkE W E T Φ X e l :=
  ⟨h, pt_plainZ c h he, fun op vs p z => absurd z (hb op vs p)⟩
theorem Cs.blk (c : Cs W Φ n E X) {s : Shared} {H : Hp} {scope : Scope} {cenv : Env} {fp : List Addr} : Cs W Φ n E0 (X.blk s H scope cenv fp) :=
  ⟨c.p, c.w, c.K, c.mg, c.base, c.hc, c.nd, c.room, c.gd, c.fz, fun u s' x => by
    obtain ⟨_, _, _, _, _, _, _, _, _, _, _, _, _, _, _, _, h⟩ := x
    exact h.elim⟩
theorem At.blk (t : At W Φ n Γ sc E X) {s : Shared} {H : Hp} {scope : Scope} {C : Addr} {cl : List (PySem.Str × Addr)} {fp : List Addr} : At W Φ n Γ (relS scope sc) E0 (X.blk s H scope (compEnvC scope cl C X.env) fp) :=
  ⟨t.c.blk, by rw [← t.s]; rfl, t.N⟩
theorem visB_vis (h : visB sc x = true) : Vis sc x := by
  unfold visB at h
  split at h
  · exact .inl (by assumption)
  · exact .inr (.inl (by assumption))
  · exact .inr (.inr (by assumption))
  · cases h
theorem ownB_loc (h : ownB sc x = true) : Loc sc x := by
  unfold ownB at h
  split at h
  · exact .inl (by assumption)
  · exact .inr (by assumption)
  · cases h
theorem gloB_gl (t : At W Φ n Γ sc E X) (h : gloB sc x = true) : Gl X x := by
  unfold gloB at h
  split at h
  · show X.env.scope.names.lookup x = _
    rw [t.s]
    assumption
  · cases h
theorem ixOf_get : ∀ {N : List PySem.Str} {x : PySem.Str} {i : Nat}, ixOf N x = some i → N[i]? = some x
  | [], _, _, h => by cases h
  | y :: r, x, i, h => by
    unfold ixOf at h
    split at h
    · rename_i e
      cases h
      rw [beq_iff_eq.mp e]
      rfl
    · obtain ⟨j, hj, rfl⟩ := Option.map_eq_some_iff.mp h
      simpa using ixOf_get hj
theorem dbgB_no (h : dbgB x = false) : (x == ("__debug__" : PySem.Str)) = false ∧ (x == ("__classdict__" : PySem.Str)) = false := Bool.or_eq_false_iff.mp h
/-! arguments -/
theorem pa_all (c : Cs W Φ n E X) {f : Expr → LE} (h : ∀ e, PE X e (EV W E T Φ (f e))) : ∀ args : List Expr, PA X args (EVs W E T Φ (esL f args))
  | [] => pa_nilZ
  | e :: es => by
    have ih := pa_all c h es
    by_cases hs : isStar e = true
    · cases e <;> first
        | exact pa_starZ c (h _) ih
        | cases hs
    · have hs' : isStar e = false := by simpa using hs
      have : esL f (e :: es) = .cons (f e) (esL f es) := by cases e <;> first | rfl | cases hs'
      rw [this]
      exact pa_consZ (h e) ih hs'
/-! constants, names -/
theorem cst_rd {c : Const} {d : D} (h : cstD c = some d) {k : Nat} : PE X (.Constant c k p) (EV W E T Φ (.cst d)) := by
  cases c <;> simp only [cstD] at h <;> first
    | (cases h; done)
    | (cases h; first
      | exact pe_cstZ pe_int fun _ => rfl
      | exact pe_cstZ pe_bl fun _ => rfl
      | exact pe_cstZ pe_non fun _ => rfl
      | exact pe_cstZ pe_str fun _ => rfl)
theorem ty_boot {t : Ty} (h : tyTab.lookup x = some t) : bootBuiltins x = some (.type (tyN t)) ∧ x ≠ "__name__" := by
  have key : ∀ (l : List (PySem.Str × Ty)), (∀ p ∈ l, bootBuiltins p.1 = some (.type (tyN p.2)) ∧ p.1 ≠ "__name__") → l.lookup x = some t → bootBuiltins x = some (.type (tyN t)) ∧ x ≠ "__name__" := fun l hl hx => by
    have := PySem.mem_of_lookup hx
    exact hl _ this
  refine key tyTab (fun p hp => ?_) h
  simp only [tyTab, List.mem_cons, List.not_mem_nil, or_false] at hp
  rcases hp with rfl | rfl | rfl | rfl | rfl | rfl | rfl <;> exact ⟨by decide +kernel, by decide⟩
theorem name_ok (G : Gok W Γ) (t : At W Φ n Γ sc E X) : PE X (.Name x p) (EV W E T Φ (toName Γ sc x)) := by
  unfold toName
  split
  · exact pe_nevZ
  · rename_i hd
    obtain ⟨d1, d2⟩ := dbgB_no (by simpa using hd)
    split
    · rename_i hv
      split
      · rename_i i hi
        exact pe_varZ (by rw [t.N]; exact ixOf_get hi) (by rw [t.s]; exact visB_vis hv) d1 d2
      · exact pe_nevZ
    · split
      · rename_i hg
        have gl := gloB_gl t hg
        split
        · rename_i d hc
          obtain ⟨u, v, hm, rv, rd⟩ := G.cst x d hc
          exact pe_cstZ (pe_glob gl (by rw [t.c.mg]; exact hm) rv d1) rd
        · split
          · rename_i c hc
            obtain ⟨hm, _⟩ := G.cl x c hc
            exact pe_cstZ (v := .ref (W.clA c)) (pe_glob gl (by rw [t.c.mg]; exact hm) rfl d1) fun _ => rfl
          · split
            · rename_i hb
              split
              · rename_i ty hty
                obtain ⟨hb1, hb2⟩ := ty_boot hty
                exact pe_cstZ (v := .ty (tyN ty)) (pe_bltn gl (by rw [t.c.mg]; exact G.blt x hb) hb1 rfl hb2 d1) fun _ => rfl
              · exact pe_nevZ
            · exact pe_nevZ
      · exact pe_nevZ
/-! calls by name -/
theorem bi_name_of {f : Bi} (h : biTab.lookup x = some f) : x = biN f := by
  have := PySem.mem_of_lookup h
  simp only [biTab, List.mem_cons, List.not_mem_nil, or_false, Prod.mk.injEq] at this
  rcases this with ⟨rfl, rfl⟩ | ⟨rfl, rfl⟩ | ⟨rfl, rfl⟩ | ⟨rfl, rfl⟩ | ⟨rfl, rfl⟩ | ⟨rfl, rfl⟩ | ⟨rfl, rfl⟩ | ⟨rfl, rfl⟩ | ⟨rfl, rfl⟩ | ⟨rfl, rfl⟩ | ⟨rfl, rfl⟩ | ⟨rfl, rfl⟩ | ⟨rfl, rfl⟩ <;> rfl
theorem isB_ok (G : Gok W Γ) (t : At W Φ n Γ sc E X) {y : PySem.Str} (h : isB y Γ sc = true) : Gl X y ∧ X.mg y = none := by
  obtain ⟨h1, h2⟩ := Bool.and_eq_true_iff.mp h
  exact ⟨gloB_gl t h1, by rw [t.c.mg]; exact G.blt y h2⟩
theorem biL_name {mu : Bool} : biN (biL mu) = "list" := by cases mu <;> rfl
theorem call_ok (G : Gok W Γ) (wf : Wf W T) (t : At W Φ n Γ sc E X) {f : Expr → LE} (h : ∀ e, PE X e (EV W E T Φ (f e))) : PE X (.Call (.Name x p) args [] pos) (EV W E T Φ (toCall f Γ sc x args pos)) := by
  have c := t.c
  unfold toCall
  split
  · rename_i hgd
    obtain ⟨hg, hd⟩ := Bool.and_eq_true_iff.mp hgd
    obtain ⟨d1, d2⟩ := dbgB_no (by simpa using hd)
    have gl := gloB_gl t hg
    split
    · rename_i fn hf
      obtain ⟨hm, hk⟩ := G.fn x fn hf
      split
      · rename_i hn
        exact pe_callZ c gl (by rw [c.mg]; exact hm) (by rw [c.K]; exact hk) d1 (pa_all c h args) hn
      · exact pe_nevZ
    · split
      · rename_i cl hc
        obtain ⟨hm, hk⟩ := G.cl x cl hc
        split
        · rename_i hn
          exact pe_newZ c wf gl (by rw [c.mg]; exact hm) (by rw [c.K]; exact hk) d1 (pa_all c h args) hn
        · exact pe_nevZ
      · split
        · rename_i hb
          have hm : X.mg x = none := by rw [c.mg]; exact G.blt x hb
          split
          · rename_i bf hbf
            obtain rfl := bi_name_of hbf
            split
            · rename_i hn
              exact pe_biZ c wf gl hm (pa_all c h args) hn
            · exact pe_nevZ
          · split
            · rename_i hl
              obtain rfl := beq_iff_eq.mp hl
              have plain : ∀ {mu : Bool}, noStars args = true → PE X (.Call (.Name "list" p) args [] pos) (EV W E T Φ (.bi (biL mu) (esL f args))) := fun {mu} hn => by
                have q := pe_biZ (f := biL mu) (p := p) (pos := pos) c wf (by rw [biL_name]; exact gl) (by rw [biL_name]; exact hm) (pa_all c h args) hn
                rw [biL_name] at q
                exact q
              split
              · rename_i y q a r
                split
                · rename_i hy
                  simp only [Bool.and_eq_true, Bool.not_eq_true'] at hy
                  obtain ⟨⟨h1, h2⟩, h3⟩ := hy
                  obtain rfl := beq_iff_eq.mp h1
                  obtain ⟨g2, m2⟩ := isB_ok G t h2
                  exact pe_lrg1Z c gl hm g2 m2 (h a) h3
                · exact plain rfl
              · split
                · rename_i hn
                  exact plain hn
                · exact pe_nevZ
            · split
              · rename_i hl
                obtain rfl := beq_iff_eq.mp hl
                split
                · rename_i y q a b r
                  split
                  · rename_i hy
                    simp only [Bool.and_eq_true, Bool.not_eq_true'] at hy
                    obtain ⟨⟨⟨h1, h2⟩, h3⟩, h4⟩ := hy
                    obtain rfl := beq_iff_eq.mp h1
                    obtain ⟨g2, m2⟩ := isB_ok G t h2
                    exact pe_dzipZ c gl hm g2 m2 (h a) (h b) h3 h4
                  · exact pe_nevZ
                · exact pe_nevZ
              · exact pe_nevZ
        · exact pe_nevZ
  · exact pe_nevZ
/-! methods, attributes, subscripts -/
theorem bm_name_of {f : Bm} (h : bmTab.lookup x = some f) : bmN f = x ∧ f ≠ .items ∧ f ≠ .upper ∧ f ≠ .replace := by
  have := PySem.mem_of_lookup h
  simp only [bmTab, List.mem_cons, List.not_mem_nil, or_false, Prod.mk.injEq] at this
  rcases this with ⟨rfl, rfl⟩ | ⟨rfl, rfl⟩ | ⟨rfl, rfl⟩ | ⟨rfl, rfl⟩ | ⟨rfl, rfl⟩ | ⟨rfl, rfl⟩ | ⟨rfl, rfl⟩ | ⟨rfl, rfl⟩ | ⟨rfl, rfl⟩ <;> exact ⟨rfl, by decide, by decide, by decide⟩
theorem base_eq {o : Expr} {m : PySem.Str} {env : Env} (h : notCall o = true) : attributeBase o m env (eval o env) = eval o env := by
  cases o with
  | Call fn as kws ps =>
    cases fn with
    | Name y q =>
      cases as with
      | nil =>
        cases kws with
        | nil => cases h
        | cons _ _ => rfl
      | cons _ _ => rfl
    | _ => rfl
  | _ => rfl
theorem mth_ok (G : Gok W Γ) (wf : Wf W T) (t : At W Φ n Γ sc E X) {f : Expr → LE} (h : ∀ e, PE X e (EV W E T Φ (f e))) {o : Expr} {m : PySem.Str} {ap : Pos} (hc : (noStars args && args.length < 30 && ap.endLine == pos.line && notCall o) = true) :
    PE X (.Call (.Attribute o m ap) args [] pos) (EV W E T Φ (.mth (f o) (bmTab.lookup m) (Γ.atN.lookup m) (esL f args))) := by
  simp only [Bool.and_eq_true, decide_eq_true_eq] at hc
  obtain ⟨⟨⟨h1, h2⟩, h3⟩, h4⟩ := hc
  exact pe_mthZ t.c wf (fun bb e => bm_name_of e) (fun mm e => G.at_ m mm e) (h o) (pa_all t.c h args) (base_eq h4) h1 h2 h3
theorem po_ok {f : Expr → LE} (h : ∀ e, PE X e (EV W E T Φ (f e))) : ∀ o : Option Expr, PO X o (tEvO W E (evO T Φ (oL f o)))
  | none => po_noZ
  | some e => po_someZ (h e)
theorem idx_ok (wf : Wf W T) (c : Cs W Φ n E X) (ha : PE X a (EV W E T Φ la)) (hb : PE X b (EV W E T Φ lb)) (hs : notSlice b = true) : PE X (.Subscript a b pos) (EV W E T Φ (.idx la lb)) := by
  refine pe_idxZ c wf ha hb (fun v u => ?_) fun v u => ?_
  · cases b <;> first | rfl | cases hs
  · cases b <;> first | rfl | cases hs
/-! tests -/
theorem pt_iteZ {c : Expr} (hc : PT X c (EVb W E T Φ lc)) (ha : PT X a (EVb W E T Φ la)) (hb : PT X b (EVb W E T Φ lb)) : PT X (.IfExp c a b pos) (EVb W E T Φ (.ite lc la lb)) := by
  refine ⟨fun pins s σ H Q I ⟨g, S, σd, rs, rst, o⟩ => ?_⟩
  have e : tst T Φ (.ite lc la lb) σd S = (tst T Φ lc σd S).bind fun k S => if k then tst T Φ la σd S else tst T Φ lb σd S := by
    unfold tst
    simp only [ev]
    cases ev T Φ lc σd S with
    | ok x S1 =>
      simp only [R.bind_ok]
      cases ht : truth S1 x with
      | none => rfl
      | some k => cases k <;> rfl
    | err e S => rfl
    | bad => rfl
  rw [e] at o
  refine isTrue_IfExp (thn (hc.run pins s σ H _ I ⟨g, S, σd, rs, rst, OutG.bind rst o⟩) fun k s1 ⟨H1, I1, g1, S1, d1, le1, rs1, rst1, rd1, o1⟩ => ?_)
  subst rd1
  cases d1 with
  | true => exact ite_tt (ha.run pins s1 σ H1 Q I1 ⟨g1, S1, σd, rs1, rst1, o1⟩)
  | false => exact ite_ff (hb.run pins s1 σ H1 Q I1 ⟨g1, S1, σd, rs1, rst1, o1⟩)
theorem rd_bl {d : D} {k : Bool} (r : RD W g d (.bl k)) : d = .bl k := by
  cases d with
  | bl b =>
    have : V.bl k = V.bl b := r
    cases this
    rfl
  | non => exact nomatch (show V.bl k = V.non from r)
  | int i => exact nomatch (show V.bl k = V.int i from r)
  | str i => exact nomatch (show V.bl k = V.str i from r)
  | tup ds => obtain ⟨_, _, e, _⟩ := r; cases e
  | lst ds => obtain ⟨_, _, e, _⟩ := r; cases e
  | scr ds => obtain ⟨_, _, e, _⟩ := r; cases e
  | dct ks ds => obtain ⟨_, _, _, _, e, _⟩ := r; cases e
  | set ds => obtain ⟨_, _, e, _⟩ := r; cases e
  | ins c fs ds => obtain ⟨_, _, _, e, _⟩ := r; cases e
  | exc c v => obtain ⟨_, _, _, e, _⟩ := r; cases e
  | ref m => obtain ⟨_, _, e⟩ := r; cases e
  | fn f => exact nomatch (show V.bl k = V.ref _ from r)
  | cls f => exact nomatch (show V.bl k = V.ref _ from r)
  | ty f => exact nomatch (show V.bl k = V.ty _ from r)
theorem pt_chnZ (c : Cs W Φ n E X) (wf : Wf W T) {op op' : CmpOp} (ha : PE X a (EV W E T Φ la)) (hb : PE X b (EV W E T Φ lb)) (hd : PE X d (EV W E T Φ lc)) (hm : lastMarks [op, op'] [b, d] = false) : PT X (.Compare a [op, op'] [b, d] pos) (EVb W E T Φ (.chn op op' la lb lc)) := by
  refine ⟨fun pins s σ H Q I h => ?_⟩
  obtain ⟨g, S, σd, rs, rst, o⟩ := h
  unfold tst at o
  have o' := OutG.bind (rel := RD W) rst o
  simp only [ev] at o'
  refine isTrue_chain (thn (ha.run pins s σ H _ I ⟨g, S, σd, rs, rst, OutG.bind rst o'⟩) fun v s1 ⟨x, H1, I1, r1, g1, S1, d1, le1, rs1, rst1, rd1, o1⟩ => test_link (thn (hb.run pins s1 σ H1 _ I1 ⟨g1, S1, σd, rs1, rst1, OutG.bind rst1 o1⟩) fun u s2 ⟨y, H2, I2, r2, g2, S2, d2, le2, rs2, rst2, rd2, o2⟩ =>
    thn (op_cmp c wf pins s2 σ H2 x y v u _ I2 r1 r2 ⟨g2, S2, d1, d2, rs2, rd1.mono le2, rd2, OutG.bind rst2 o2⟩) fun w s3 ⟨z, H3, I3, r3, g3, S3, d3, le3, rs3, rst3, rd3, o3⟩ => ?_)) hm
  cases d3 with
  | bl k =>
    cases rd3
    cases r3
    refine wpAny_truthy_bool ?_
    cases k with
    | false =>
      obtain ⟨g4, S4, d4, le4, rs4, rst4, rd4, o4⟩ := o3 g3 H3 _ Le.rfl' rs3 rfl
      obtain rfl := rd_bl rd4
      exact ite_ff ⟨H3, I3, o4 g4 H3 _ Le.rfl' rs4 rfl⟩
    | true =>
      refine ite_tt (test_last (thn (hd.run pins s3 σ H3 _ I3 ⟨g3, S3, σd, rs3, rst3, OutG.bind rst3 o3⟩) fun w' s4 ⟨z', H4, I4, r4, g4, S4, d4, le4, rs4, rst4, rd4, o4⟩ => thn (op_cmp c wf pins s4 σ H4 y z' u w' _ I4 r2 r4 ⟨g4, S4, d2, d4, rs4, RD.mono le4.to0 (RD.mono le3.to0 rd2), rd4, o4⟩) fun d' s5 ⟨z2, H5, I5, r5, g5, S5, d5, le5, rs5, rst5, rd5, o5⟩ => ?_))
      dsimp only at o5
      split at o5
      · rename_i k e
        exact tru_at c I5 rs5 rd5 r5 e fun s2 I2 => ⟨H5, I2, o5 g5 H5 _ Le.rfl' rs5 rfl⟩
      · exact o5.elim
  | _ => exact o3.elim
/-! what is walked -/
theorem toTg_tp {own : PySem.Str → Bool} {N : List PySem.Str} {k : Nat} {es : List Expr} {m : Nat} {t : LT} (h : toTg own N k (.Tuple es m p) = some t) : ∃ ts, t = .tp ts := by
  cases k with
  | zero => cases h
  | succ k =>
    unfold toTg at h
    obtain ⟨ts, _, rfl⟩ := Option.map_eq_some_iff.mp h
    exact ⟨ts, rfl⟩
theorem toI_ok (G : Gok W Γ) (t : At W Φ n Γ sc E X) {f : Expr → LE} (h : ∀ e, PE X e (EV W E T Φ (f e))) {tg it : Expr} {lt : LT} (ht : isTup tg = true → ∃ ts, lt = .tp ts) : PI X tg it (tEvI W lt E (evI T Φ (toI f Γ sc tg it))) := by
  have c := t.c
  have val : ∀ e, PI X tg e (tEvI W lt E (evI T Φ (.val (f e)))) := fun e => pi_valZ c (h e)
  have tup : isTup tg = true → ∃ es kk tp ts, tg = .Tuple es kk tp ∧ lt = .tp ts := fun hh => by
    obtain ⟨ts, e⟩ := ht hh
    cases tg <;> first
      | exact ⟨_, _, _, _, rfl, e⟩
      | cases hh
  unfold toI
  split
  · rename_i y p1 a q
    split
    · rename_i hy
      simp only [Bool.and_eq_true, Bool.not_eq_true'] at hy
      obtain ⟨⟨h1, h2⟩, h3⟩ := hy
      obtain rfl := beq_iff_eq.mp h1
      obtain ⟨g2, m2⟩ := isB_ok G t h2
      exact pi_rng1Z c g2 m2 (pa_consZ (h a) pa_nilZ h3) h3
    · split
      · rename_i hy
        simp only [Bool.and_eq_true, Bool.not_eq_true'] at hy
        obtain ⟨⟨⟨h1, h2⟩, h3⟩, h4⟩ := hy
        obtain rfl := beq_iff_eq.mp h1
        obtain ⟨g2, m2⟩ := isB_ok G t h2
        obtain ⟨es, kk, tp, ts, rfl, rfl⟩ := tup h4
        exact pi_enmZ c g2 m2 (h a) h3
      · exact val _
  · rename_i y p1 a b q
    split
    · rename_i hy
      simp only [Bool.and_eq_true, Bool.not_eq_true'] at hy
      obtain ⟨⟨⟨h1, h2⟩, h3⟩, h4⟩ := hy
      obtain rfl := beq_iff_eq.mp h1
      obtain ⟨g2, m2⟩ := isB_ok G t h2
      exact pi_rng2Z c g2 m2 (pa_consZ (h a) (pa_consZ (h b) pa_nilZ h4) h3) h3 h4
    · split
      · rename_i hy
        simp only [Bool.and_eq_true, Bool.not_eq_true'] at hy
        obtain ⟨⟨⟨⟨h1, h2⟩, h3⟩, h4⟩, h5⟩ := hy
        obtain rfl := beq_iff_eq.mp h1
        obtain ⟨g2, m2⟩ := isB_ok G t h2
        obtain ⟨es, kk, tp, ts, rfl, rfl⟩ := tup h5
        exact pi_zip2Z c g2 m2 (h a) (h b) h3 h4
      · exact val _
  · rename_i y p1 a b d q
    split
    · rename_i hy
      simp only [Bool.and_eq_true, Bool.not_eq_true'] at hy
      obtain ⟨⟨⟨⟨h1, h2⟩, h3⟩, h4⟩, h5⟩ := hy
      obtain rfl := beq_iff_eq.mp h1
      obtain ⟨g2, m2⟩ := isB_ok G t h2
      exact pi_rng3Z c g2 m2 (pa_consZ (h a) (pa_consZ (h b) (pa_consZ (h d) pa_nilZ h5) h4) h3) h3 h4 h5
    · split
      · rename_i hy
        simp only [Bool.and_eq_true, Bool.not_eq_true'] at hy
        obtain ⟨⟨⟨⟨⟨h1, h2⟩, h3⟩, h4⟩, h5⟩, h6⟩ := hy
        obtain rfl := beq_iff_eq.mp h1
        obtain ⟨g2, m2⟩ := isB_ok G t h2
        obtain ⟨es, kk, tp, ts, rfl, rfl⟩ := tup h6
        exact pi_zip3Z c g2 m2 (h a) (h b) (h d) h3 h4 h5
      · exact val _
  · exact val _
theorem set_eq {it : Expr} {env : Env} (h : notSet it = true) : ∀ x, foldedSetIterable it env x = pure x := fun x => by
  cases it <;> first
    | rfl
    | cases h
/-! targets -/
structure OwnOk (own : PySem.Str → Bool) (X : Cx) : Prop where
  ok : ∀ x, own x = true → Loc X.env.scope x ∧ (X.fn x = true ∨ X.env.scope.names.lookup x = some .local)
mutual
theorem toTg_ok (c : Cs W Φ n E X) {own : PySem.Str → Bool} (ow : OwnOk own X) {N : List PySem.Str} (hN : X.N = N) : ∀ (k : Nat) (e : Expr) (t : LT), toTg own N k e = some t → PG X e (tPut W t)
  | 0, _, _, h => by cases h
  | k + 1, e, t, h => by
    cases e with
    | Name x ps =>
      unfold toTg at h
      split at h
      · rename_i ho
        obtain ⟨i, hi, rfl⟩ := Option.map_eq_some_iff.mp h
        obtain ⟨h1, h2⟩ := ow.ok x ho
        exact pg_nmZ c.nd (by rw [hN]; exact ixOf_get hi) h1 h2
      · cases h
    | Tuple es m ps =>
      unfold toTg at h
      obtain ⟨ts, hts, rfl⟩ := Option.map_eq_some_iff.mp h
      obtain ⟨q1, q2, q3⟩ := toTgs_ok c ow hN k es ts hts
      exact pg_tpZ c.K c.hc q1 q2 q3
    | _ => simp [toTg] at h
theorem toTgs_ok (c : Cs W Φ n E X) {own : PySem.Str → Bool} (ow : OwnOk own X) {N : List PySem.Str} (hN : X.N = N) : ∀ (k : Nat) (es : List Expr) (ts : LTs), toTgs own N k es = some ts → PGs X es (tPuts W ts) ∧ noStars es = true ∧ ∀ ds σ σ', ts.puts ds σ = some σ' → ds.length = es.length
  | k, [], ts, h => by
    have : ts = .nil := by
      cases k <;> (simp only [toTgs] at h; cases h; rfl)
    subst this
    refine ⟨pgs_nilZ, rfl, fun ds σ σ' hp => ?_⟩
    cases ds with
    | nil => rfl
    | cons _ _ => cases hp
  | 0, e :: es, ts, h => by simp [toTgs] at h
  | k + 1, e :: es, ts, h => by
    unfold toTgs at h
    split at h
    · cases h
    · rename_i hs
      have hs' : isStar e = false := by simpa using hs
      split at h
      · rename_i t ts' h1 h2
        cases h
        have r1 := toTg_ok c ow hN k e t h1
        obtain ⟨r2, r3, r4⟩ := toTgs_ok c ow hN k es ts' h2
        refine ⟨pgs_consZ r1 r2 hs', by unfold noStars; rw [List.all_cons, hs']; exact r3, fun ds σ σ' hp => ?_⟩
        cases ds with
        | nil => cases hp
        | cons d ds =>
          have hp' : (match t.put d σ with | some σ1 => ts'.puts ds σ1 | none => none) = some σ' := hp
          split at hp'
          · rw [List.length_cons, List.length_cons, r4 ds _ _ hp']
          · cases hp'
      · cases h
end
theorem own_blk (t : At W Φ n Γ sc E X) {s : Shared} {H : Hp} {scope : Scope} {C : Addr} {cl : List (PySem.Str × Addr)} {fp : List Addr} : OwnOk (ownB scope) (X.blk s H scope (compEnvC scope cl C X.env) fp) := by
  refine ⟨fun x h => ?_⟩
  unfold ownB at h
  have key : ∀ k, scope.names.lookup x = some k → k ≠ .free → (relS scope X.env.scope).names.lookup x = some k := fun k hk hf => lookup_relS_keep hf hk
  split at h
  · rename_i hl
    exact ⟨.inl (key _ hl (by decide)), .inr (key _ hl (by decide))⟩
  · rename_i hl
    refine ⟨.inr (key _ hl (by decide)), .inl ?_⟩
    show (scope.names.lookup x == some NameKind.cell) = true
    rw [hl]
    rfl
  · cases h
theorem keysD_all : ∀ {keys : List (Option Expr)} {ds : List D}, keysD keys = some ds → keys.all (·.isSome) = true ∧ ds.length = keys.length
  | [], ds, h => by cases h; exact ⟨rfl, rfl⟩
  | none :: r, ds, h => by simp [keysD] at h
  | some e :: r, ds, h => by
    cases e <;> simp only [keysD] at h <;> first
      | (cases h; done)
      | skip
    split at h
    · rename_i d ds' h1 h2
      split at h
      · cases h
        obtain ⟨q1, q2⟩ := keysD_all h2
        exact ⟨by rw [List.all_cons, q1]; rfl, by rw [List.length_cons, List.length_cons, q2]⟩
      · cases h
    · cases h
theorem pps_ok (c : Cs W Φ n E X) {f : Expr → LE} (h : ∀ e, PE X e (EV W E T Φ (f e))) : ∀ {keys : List (Option Expr)} {ds : List D} {vals : List Expr}, keysD keys = some ds → keys.length = vals.length → PPs X pos keys vals (trsOf W E T Φ ds (vals.map f))
  | [], ds, vals, hk, hl => by
    cases hk
    cases vals with
    | nil => exact pps_nil
    | cons _ _ => simp at hl
  | none :: r, ds, vals, hk, _ => by simp [keysD] at hk
  | some e :: r, ds, vals, hk, hl => by
    cases e <;> simp only [keysD] at hk <;> first
      | (cases hk; done)
      | skip
    rename_i cc m ps
    split at hk
    · rename_i d ds' h1 h2
      split at hk
      · rename_i hkS
        cases hk
        cases vals with
        | nil => simp at hl
        | cons v vals =>
          refine pps_cons ?_ (h v) (pps_ok c h h2 (by simpa using hl))
          cases cc <;> simp only [cstD] at h1 <;> first
            | (cases h1; done)
            | (cases h1; first
              | exact pe_int
              | exact pe_str
              | (simp [keyS] at hkS))
      · cases hk
    · cases hk
end
end Z
end

section
set_option Elab.async false
set_option linter.all false
set_option maxRecDepth 100000
set_option maxHeartbeats 8000000
/-! Z, part 32: expressions translated. -/
namespace Z
open PySem PySem.W PySem.Spec PyProof.Rows L2 PySem.SeqAt
section
variable {W : Wd} {Φ : Fn} {n : Nat} {T : Tab} {Γ : Gm}
theorem pts_of {X : Cx} {E : WX} {f : Expr → LE} {ifs : List Expr} {lo : LO} (h : ∀ e, PT X e (EVb W E T Φ (f e))) (hb : toB f ifs = some lo) : PTs X ifs (tEvB W E (evT T Φ lo)) := by
  unfold toB at hb
  split at hb
  · cases hb
    refine ⟨fun pins s σ H Q I ⟨g, S, σd, rs, rst, o⟩ => pts_nil.run pins s σ H Q I ?_⟩
    simp only [evT] at o
    exact o g H true Le.rfl' rs rfl
  · rename_i c
    cases hb
    refine ⟨fun pins s σ H Q I ⟨g, S, σd, rs, rst, o⟩ => (pts_one (h c)).run pins s σ H Q I ⟨g, S, σd, rs, rst, ?_⟩⟩
    have e : evT T Φ (.some (f c)) σd S = tst T Φ (f c) σd S := by
      simp only [evT]
      rfl
    rw [← e]
    exact o
  · cases hb
theorem slots_of {own : List (PySem.Str × Nat)} {t : LT} (h : t.slots.all (fun j => (own.map (·.2)).contains j) = true) : ∀ j ∈ t.slots, j ∈ own.map (·.2) := fun j hj => List.contains_iff_mem.mp (List.all_eq_true.mp h j hj)
theorem toE_ok (G : Gok W Γ) (wf : Wf W T) (no : NoOps T) : ∀ (k : Nat) (sc : Scope) (e : Expr) (E : WX) (X : Cx), At W Φ n Γ sc E X → OkE W E T Φ X e (toE Γ k sc e)
  | 0, sc, e, E, X, t => OkE.nev
  | k + 1, sc, e, E, X, t => by
    have ih := toE_ok G wf no k
    have c := t.c
    have hpe : ∀ e, PE X e (EV W E T Φ (toE Γ k sc e)) := fun e => (ih sc e E X t).pe
    have hpt : ∀ e, PT X e (EVb W E T Φ (toE Γ k sc e)) := fun e => (ih sc e E X t).pt
    unfold toE
    split
    · exact OkE.plain c (name_ok G t) (fun _ => rfl) (by intros; exact nofun)
    · split
      · rename_i h
        exact OkE.plain c (cst_rd h) (fun _ => rfl) (by intros; exact nofun)
      · exact OkE.nev
    · exact OkE.plain c (pe_binZ c no (hpe _) (hpe _)) (fun _ => rfl) (by intros; exact nofun)
    · exact OkE.plain c (pe_negZ (hpe _)) (fun _ => rfl) (by intros; exact nofun)
    · exact ⟨pe_notZ c (hpe _), pt_notZ (hpt _), by intros; contradiction⟩
    · split
      · exact OkE.nev
      · rename_i hm
        have hm' := Bool.eq_false_iff.mpr hm
        exact ⟨pe_cmpZ c wf (hpe _) (hpe _) hm', pt_cmpZ c wf (hpe _) (hpe _) hm', by intros; contradiction⟩
    · split
      · exact OkE.nev
      · rename_i hm
        have hm' := Bool.eq_false_iff.mpr hm
        exact ⟨pe_chnZ c wf (hpe _) (hpe _) (hpe _) hm', pt_chnZ c wf (hpe _) (hpe _) (hpe _) hm', by intros; contradiction⟩
    · rename_i op a p
      have pw : PW X (.BoolOp op [a] p) (EVb W E T Φ (toE Γ k sc a)) := by
        cases op with
        | And => exact pw_and1 (hpt a)
        | Or => exact pw_or1 (hpt a)
      exact ⟨pe_one (hpe a), pw.pt, fun _ _ _ _ => pw⟩
    · rename_i a b r p
      have q := ih sc (.BoolOp .And (b :: r) p) E X t
      have pw := pw_andZ (pos := p) (hpt a) (q.pw _ _ _ rfl)
      exact ⟨pe_andZ c (hpe a) q.pe, pw.pt, fun _ _ _ _ => pw⟩
    · rename_i a b r p
      have q := ih sc (.BoolOp .Or (b :: r) p) E X t
      have pw := pw_orZ (pos := p) (hpt a) (q.pw _ _ _ rfl)
      exact ⟨pe_orZ c (hpe a) q.pe, pw.pt, fun _ _ _ _ => pw⟩
    · exact ⟨pe_iteZ (hpt _) (hpe _) (hpe _), pt_iteZ (hpt _) (hpt _) (hpt _), by intros; contradiction⟩
    · exact OkE.plain c (pe_tupZ (pa_all c hpe _)) (fun _ => rfl) (by intros; exact nofun)
    · exact OkE.plain c (pe_lstZ (pa_all c hpe _)) (fun _ => rfl) (by intros; exact nofun)
    · rename_i keys vals p
      split
      · rename_i ds hk
        split
        · rename_i hc
          simp only [Bool.and_eq_true, beq_iff_eq, decide_eq_true_eq] at hc
          obtain ⟨⟨h1, h2⟩, h3⟩ := hc
          obtain ⟨q1, q2⟩ := keysD_all hk
          by_cases h0 : keys = []
          · subst h0
            cases hk
            have : vals = [] := List.length_eq_zero_iff.mp h1.symm
            subst this
            exact OkE.plain c pe_dct0Z (fun _ => rfl) (by intros; exact nofun)
          · exact OkE.plain c (pe_dctZ (pps_ok c hpe hk h1) q1 h1 h0 (by omega) (by rw [List.length_map]; omega) (by omega)) (fun _ => rfl) (by intros; exact nofun)
        · exact OkE.nev
      · split
        · exact OkE.plain c (pe_dct1Z (hpe _) (hpe _)) (fun _ => rfl) (by intros; exact nofun)
        · exact OkE.nev
    · rename_i el tg it ifs scope p
      split
      · rename_i lt lo ht hb
        split
        · rename_i hc
          simp only [Bool.and_eq_true] at hc
          obtain ⟨⟨h1, h2⟩, h3⟩ := hc
          refine OkE.plain c (pe_lcZ c (toI_ok G t hpe fun ht' => ?_) (blkOk_by (by rw [t.N, t.s]; exact h2)) (fun s H C cl fp => ?_) (fun s H C cl fp => ?_) (fun s H C cl fp => ?_) (set_eq h1) (slots_of h3)) (fun _ => rfl) (by intros; exact nofun)
          · cases tg <;> first
              | exact toTg_tp ht
              | cases ht'
          · exact toTg_ok c.blk (own_blk t) t.N _ _ _ ht
          · exact pts_of (fun e => (ih (relS scope sc) e E0 _ t.blk).pt) hb
          · exact (ih (relS scope sc) el E0 _ t.blk).pe
        · exact OkE.nev
      · exact OkE.nev
    · rename_i ke el tg it ifs scope p
      split
      · rename_i lt lo ht hb
        split
        · rename_i hc
          simp only [Bool.and_eq_true] at hc
          obtain ⟨⟨h1, h2⟩, h3⟩ := hc
          refine OkE.plain c (pe_dcZ c (toI_ok G t hpe fun ht' => ?_) (blkOk_by (by rw [t.N, t.s]; exact h2)) (fun s H C cl fp => ?_) (fun s H C cl fp => ?_) (fun s H C cl fp => ?_) (fun s H C cl fp => ?_) (set_eq h1) (slots_of h3)) (fun _ => rfl) (by intros; exact nofun)
          · cases tg <;> first
              | exact toTg_tp ht
              | cases ht'
          · exact toTg_ok c.blk (own_blk t) t.N _ _ _ ht
          · exact pts_of (fun e => (ih (relS scope sc) e E0 _ t.blk).pt) hb
          · exact (ih (relS scope sc) ke E0 _ t.blk).pe
          · exact (ih (relS scope sc) el E0 _ t.blk).pe
        · exact OkE.nev
      · exact OkE.nev
    · exact OkE.plain c (call_ok G wf t hpe) (fun _ => rfl) (by intros; exact nofun)
    · split
      · rename_i hc
        exact OkE.plain c (mth_ok G wf t hpe hc) (fun _ => rfl) (by intros; exact nofun)
      · exact OkE.nev
    · rename_i o m p
      split
      · rename_i f hf
        split
        · rename_i hc
          have e := G.at_ m f hf
          subst e
          exact OkE.plain c (pe_atrZ c wf (hpe _) (base_eq hc)) (fun _ => rfl) (by intros; exact nofun)
        · exact OkE.nev
      · exact OkE.nev
    · exact OkE.plain c (pe_slcZ c (hpe _) (po_ok hpe _) (po_ok hpe _)) (fun _ => rfl) (by intros; exact nofun)
    · split
      · rename_i hs
        exact OkE.plain c (idx_ok wf c (hpe _) (hpe _) hs) (fun _ => rfl) (by intros; exact nofun)
      · exact OkE.nev
    · exact OkE.nev
end
end Z
end

section
set_option Elab.async false
set_option linter.all false
set_option maxRecDepth 100000
set_option maxHeartbeats 8000000
/-! Z, part 33: statements translated. -/
namespace Z
open PySem PySem.W PySem.Spec PyProof.Rows L2 PySem.SeqAt
section
variable {W : Wd} {Φ : Fn} {n : Nat} {E : WX} {X : Cx} {T : Tab} {Γ : Gm} {sc : Scope} {Wn : Nat}
theorem sw_none {e : Expr} {l : Nat} {env : Env} {o : Option Expr} (h : notComp e = true) : swapsWith e o l env = pure false := by
  cases e <;> first
    | rfl
    | cases h
theorem sw_attr {e o : Expr} {m : PySem.Str} {p : Pos} {l : Nat} {env : Env} : swapsWith e (some (.Attribute o m p)) l env = pure false := by
  cases e <;> rfl
theorem sw_lc {el : Expr} {gs : List Comprehension} {scope : Scope} {p py : Pos} {y : PySem.Str} {l : Nat} {env : Env} (hs : env.scope = sc) (hk : sc.kind = .function) : swapsWith (.ListComp el gs scope p) (some (.Name y py)) l env = pure (swB sc y py p scope) := by
  have hb : env.blockKind = .function := by unfold Env.blockKind; rw [hs, hk]; rfl
  have hy : (env.kindOf y == some .local) = locB sc y := by
    unfold locB Env.kindOf
    rw [hs]
    cases sc.names.lookup y with
    | none => rfl
    | some kd => cases kd <;> rfl
  unfold swapsWith swB
  simp only [hb, hy, Expr.pos]
  rfl
theorem sw_dc {ke el : Expr} {gs : List Comprehension} {scope : Scope} {p py : Pos} {y : PySem.Str} {l : Nat} {env : Env} (hs : env.scope = sc) (hk : sc.kind = .function) : swapsWith (.DictComp ke el gs scope p) (some (.Name y py)) l env = pure (swB sc y py p scope) := by
  have hb : env.blockKind = .function := by unfold Env.blockKind; rw [hs, hk]; rfl
  have hy : (env.kindOf y == some .local) = locB sc y := by
    unfold locB Env.kindOf
    rw [hs]
    cases sc.names.lookup y with
    | none => rfl
    | some kd => cases kd <;> rfl
  unfold swapsWith swB
  simp only [hb, hy, Expr.pos]
  rfl
theorem fm_le {α β : Type} (f : α → Option β) : ∀ l : List α, (l.filterMap f).length ≤ l.length
  | [] => Nat.le_refl _
  | a :: l => by
    rw [List.filterMap_cons]
    have := fm_le f l
    cases f a <;> (simp only [List.length_cons]; omega)
theorem fm_lt {α β : Type} (f : α → Option β) (q : α → Bool) (h : ∀ a, q a = true → f a = none) : ∀ l : List α, l.any q = true → ((l.filterMap f).length != l.length) = true
  | [], e => by simp at e
  | a :: l, e => by
    have hle := fm_le f l
    rw [List.filterMap_cons]
    rw [List.any_cons, Bool.or_eq_true] at e
    rcases e with e | e
    · rw [h a e]
      simp only [List.length_cons, bne_iff_ne, ne_eq]
      omega
    · have ih := fm_lt f q h l e
      simp only [bne_iff_ne, ne_eq] at ih
      cases f a <;> (simp only [List.length_cons, bne_iff_ne, ne_eq]; omega)
theorem store_none {ts : List Expr} {m : Nat} {p : Pos} {e : Expr} {env : Env} (hs : env.scope = sc) (h : noparB sc ts e = true) : swappedStores [.Tuple ts m p] e env = pure none := by
  unfold noparB at h
  unfold swappedStores
  split at h
  · rename_i vs k q
    simp only
    split
    · rfl
    · split
      · rfl
      · rename_i g1 _
        rw [if_pos]
        simp only [Bool.or_eq_true, Bool.not_eq_true', Bool.or_eq_false_iff, bne_iff_ne, ne_eq] at h g1
        rw [Bool.or_eq_true]
        refine .inl (fm_lt _ (fun t => match t with | .Name x _ => !locB sc x | _ => true) (fun t ht => ?_) ts ?_)
        · cases t with
          | Name x ps =>
            dsimp only at ht ⊢
            have hx : (env.kindOf x == some .local) = false := by
              unfold locB at ht
              unfold Env.kindOf
              rw [hs]
              cases hl : sc.names.lookup x with
              | none => rfl
              | some kd =>
                rw [hl] at ht
                cases kd <;> first
                  | rfl
                  | (simp at ht)
            rw [hx, Bool.false_and]
            rfl
          | _ => rfl
        · rcases h with (h | h) | h
          · exact absurd (.inl (.inr h)) g1
          · exact absurd (.inl (.inl h)) g1
          · exact h
  · cases e <;> first
      | rfl
      | (exfalso; rename_i hh; exact hh _ _ _ rfl)
theorem store_two {x y : PySem.Str} {px py p p2 : Pos} {m m2 : Nat} {a b : Expr} {env : Env} (hs : env.scope = sc) (hk : sc.kind = .function) (h : parB sc x y px py a b = true) :
    swappedStores [.Tuple [.Name x px, .Name y py] m p] (.Tuple [a, b] m2 p2) env = pure (some [x, y]) := by
  unfold parB at h
  simp only [Bool.and_eq_true, Bool.not_eq_true', beq_iff_eq] at h
  obtain ⟨⟨⟨⟨⟨⟨⟨h1, h2⟩, h3⟩, h4⟩, h5⟩, h6⟩, h7⟩, h8⟩ := h
  have hb : env.blockKind = .function := by unfold Env.blockKind; rw [hs, hk]; rfl
  have hl : ∀ z, locB sc z = true → (env.kindOf z == some .local) = true := fun z hz => by
    unfold locB at hz
    unfold Env.kindOf
    rw [hs]
    split at hz
    · rename_i e; rw [e]; rfl
    · cases hz
  have hx := hl x h1
  have hy := hl y h2
  have hyx : (y == x) = false := by
    rw [beq_eq_false_iff_ne] at h4 ⊢
    exact fun z => h4 z.symm
  have he : [x, y].eraseDups.length = 2 := by
    simp [List.eraseDups_cons, hyx]
  unfold swappedStores
  simp only [List.length_cons, List.length_nil, hb, List.any_cons, List.any_nil, List.head?_cons, Option.map_some, Option.getD_some, Expr.pos, List.filterMap_cons, List.filterMap_nil, hx, hy, h3, List.all_cons, List.all_nil, beq_self_eq_true, Bool.and_true, if_true, Bool.and_self]
  rw [if_neg (by simp)]
  rw [if_neg]
  · rw [if_neg]
    · rw [if_neg (by rw [h7]; exact Bool.false_ne_true), if_neg (by rw [h8]; exact Bool.false_ne_true)]
    · simp [he]
  · intro hh
    simp only [Bool.or_eq_true, Bool.false_eq_true, or_false] at hh
    rcases hh with hh | hh
    · split at hh
      · cases h5
      · cases hh
    · split at hh
      · cases h6
      · cases hh
theorem ps_asg_nev {t : LT} {st : Stmt} : PS X st (EX W E T Φ Wn (.asg t .nev)) := ⟨fun pins s σ H D I ⟨g, S, σd, rs, rst, o⟩ => by simp only [ex, ev, R.bs_bad] at o; exact o.elim⟩
theorem sto_none {tg e : Expr} {env : Env} (h : ∀ ts m p, tg ≠ .Tuple ts m p) (h2 : ∀ ts p, tg ≠ .List ts p) : swappedStores [tg] e env = pure none := by
  cases tg <;> first
    | exact absurd rfl (h _ _ _)
    | exact absurd rfl (h2 _ _)
    | rfl
/-- where the statements of a def stand -/
structure AtS (W : Wd) (Φ : Fn) (n : Nat) (Γ : Gm) (sc : Scope) (E : WX) (X : Cx) : Prop where
  t : At W Φ n Γ sc E X
  k : sc.kind = .function
  fn : ∀ x, X.fn x = true
  po : PassesOwn (model X.prog X.w) X.A X.env X.xe
theorem AtS.own (t : AtS W Φ n Γ sc E X) : OwnOk (ownB sc) X := ⟨fun x h => ⟨by rw [t.t.s]; exact ownB_loc h, .inl (t.fn x)⟩⟩
theorem pss_all {f : Stmt → LS} (h : ∀ st, PS X st (EX W E T Φ Wn (f st))) : ∀ b : List Stmt, PSs X b (EXs W E T Φ Wn (ssL f b))
  | [] => pss_nilZ
  | st :: b => pss_consZ (h st) (pss_all h b)
theorem asg_plain (t : AtS W Φ n Γ sc E X) {y : PySem.Str} {py pos : Pos} {e : Expr} {l : LE} {i : Nat} (hi : ixOf Γ.N y = some i) (ho : ownB sc y = true) (hs : swapsWith e (some (.Name y py)) pos.line X.env = pure false) (h : PE X e (EV W E T Φ l)) :
    PS X (.Assign [.Name y py] e pos) (EX W E T Φ Wn (.asg (.nm i) l)) :=
  ps_asgZ rfl h (pg_nmZ t.t.c.nd (by rw [t.t.N]; exact ixOf_get hi) (by rw [t.t.s]; exact ownB_loc ho) (.inl (t.fn y))) hs (sto_none (by intros; exact nofun) (by intros; exact nofun))
theorem asg_lc (G : Gok W Γ) (wf : Wf W T) (no : NoOps T) (t : AtS W Φ n Γ sc E X) {y : PySem.Str} {py pos p : Pos} {el tg it : Expr} {ifs : List Expr} {scope : Scope} {i : Nat} {k : Nat} (hi : ixOf Γ.N y = some i) (hsw : swB sc y py p scope = true) :
    PS X (.Assign [.Name y py] (.ListComp el [⟨tg, it, ifs, 0⟩] scope p) pos) (EX W E T Φ Wn (.asg (.nm i) (toE Γ k sc (.ListComp el [⟨tg, it, ifs, 0⟩] scope p)))) := by
  cases k with
  | zero => exact ps_asg_nev
  | succ k =>
    have tt := t.t
    have c := tt.c
    have ih := toE_ok (Φ := Φ) (n := n) G wf no k
    have hyl : X.env.scope.names.lookup y = some .local := by
      unfold swB at hsw
      simp only [Bool.and_eq_true] at hsw
      have := hsw.1.1
      unfold locB at this
      rw [tt.s]
      split at this
      · assumption
      · cases this
    rw [show toE Γ (k + 1) sc (.ListComp el [⟨tg, it, ifs, 0⟩] scope p) = (match toTg (ownB scope) Γ.N 20 tg, toB (toE Γ k (relS scope sc)) ifs with
      | some t, some lo => if notSet it && blkC Γ.N sc scope (ownOf Γ.N scope.names) && t.slots.all (fun j => ((ownOf Γ.N scope.names).map (·.2)).contains j) then
          .lc (muAt Γ p) (toE Γ k (relS scope sc) el) t (toI (toE Γ k sc) Γ sc tg it) lo ((ownOf Γ.N scope.names).map (·.2)) else .nev
      | _, _ => .nev) from rfl]
    split
    · rename_i lt lo ht hb
      split
      · rename_i hc
        simp only [Bool.and_eq_true] at hc
        obtain ⟨⟨h1, h2⟩, h3⟩ := hc
        refine ps_lcZ c (by rw [tt.N]; exact ixOf_get hi) hyl (by rw [sw_lc tt.s t.k, hsw]) (toI_ok G tt (fun e => (ih sc e E X tt).pe) fun ht' => ?_) (blkOk_by (by rw [tt.N, tt.s]; exact h2)) (fun s H C cl fp => ?_) (fun s H C cl fp => ?_) (fun s H C cl fp => ?_) (set_eq h1) (slots_of h3)
        · cases tg <;> first
            | exact toTg_tp ht
            | cases ht'
        · exact toTg_ok c.blk (own_blk tt) tt.N _ _ _ ht
        · exact pts_of (fun e => (ih (relS scope sc) e E0 _ tt.blk).pt) hb
        · exact (ih (relS scope sc) el E0 _ tt.blk).pe
      · exact ps_asg_nev
    · exact ps_asg_nev
theorem asg_dc (G : Gok W Γ) (wf : Wf W T) (no : NoOps T) (t : AtS W Φ n Γ sc E X) {y : PySem.Str} {py pos p : Pos} {ke el tg it : Expr} {ifs : List Expr} {scope : Scope} {i : Nat} {k : Nat} (hi : ixOf Γ.N y = some i) (hsw : swB sc y py p scope = true) :
    PS X (.Assign [.Name y py] (.DictComp ke el [⟨tg, it, ifs, 0⟩] scope p) pos) (EX W E T Φ Wn (.asg (.nm i) (toE Γ k sc (.DictComp ke el [⟨tg, it, ifs, 0⟩] scope p)))) := by
  cases k with
  | zero => exact ps_asg_nev
  | succ k =>
    have tt := t.t
    have c := tt.c
    have ih := toE_ok (Φ := Φ) (n := n) G wf no k
    have hyl : X.env.scope.names.lookup y = some .local := by
      unfold swB at hsw
      simp only [Bool.and_eq_true] at hsw
      have := hsw.1.1
      unfold locB at this
      rw [tt.s]
      split at this
      · assumption
      · cases this
    rw [show toE Γ (k + 1) sc (.DictComp ke el [⟨tg, it, ifs, 0⟩] scope p) = (match toTg (ownB scope) Γ.N 20 tg, toB (toE Γ k (relS scope sc)) ifs with
      | some t, some lo => if notSet it && blkC Γ.N sc scope (ownOf Γ.N scope.names) && t.slots.all (fun j => ((ownOf Γ.N scope.names).map (·.2)).contains j) then
          .dc (muAt Γ p) (toE Γ k (relS scope sc) ke) (toE Γ k (relS scope sc) el) t (toI (toE Γ k sc) Γ sc tg it) lo ((ownOf Γ.N scope.names).map (·.2)) else .nev
      | _, _ => .nev) from rfl]
    split
    · rename_i lt lo ht hb
      split
      · rename_i hc
        simp only [Bool.and_eq_true] at hc
        obtain ⟨⟨h1, h2⟩, h3⟩ := hc
        refine ps_dcZ c (by rw [tt.N]; exact ixOf_get hi) hyl (by rw [sw_dc tt.s t.k, hsw]) (toI_ok G tt (fun e => (ih sc e E X tt).pe) fun ht' => ?_) (blkOk_by (by rw [tt.N, tt.s]; exact h2)) (fun s H C cl fp => ?_) (fun s H C cl fp => ?_) (fun s H C cl fp => ?_) (fun s H C cl fp => ?_) (set_eq h1) (slots_of h3)
        · cases tg <;> first
            | exact toTg_tp ht
            | cases ht'
        · exact toTg_ok c.blk (own_blk tt) tt.N _ _ _ ht
        · exact pts_of (fun e => (ih (relS scope sc) e E0 _ tt.blk).pt) hb
        · exact (ih (relS scope sc) ke E0 _ tt.blk).pe
        · exact (ih (relS scope sc) el E0 _ tt.blk).pe
      · exact ps_asg_nev
    · exact ps_asg_nev
theorem toS_ok (G : Gok W Γ) (wf : Wf W T) (no : NoOps T) : ∀ (k : Nat) (st : Stmt), AtS W Φ n Γ sc E X → PS X st (EX W E T Φ Wn (toS Γ sc k st))
  | 0, st, t => ps_nevZ
  | k + 1, st, t => by
    have ih := toS_ok G wf no k
    have tt := t.t
    have c := tt.c
    have hE := fun e => toE_ok (Φ := Φ) (n := n) G wf no k sc e E X tt
    have hpe : ∀ e, PE X e (EV W E T Φ (toE Γ k sc e)) := fun e => (hE e).pe
    have hpt : ∀ e, PT X e (EVb W E T Φ (toE Γ k sc e)) := fun e => (hE e).pt
    have hss := pss_all (X := X) (W := W) (E := E) (T := T) (Φ := Φ) (Wn := Wn) (f := toS Γ sc k) fun st => ih st t
    unfold toS
    split
    · split
      · rename_i hn
        exact ps_expZ (hpe _) (sw_none hn)
      · exact ps_nevZ
    · exact ps_rtnZ
    · exact ps_retZ (hpe _)
    · exact ps_pasZ
    · rename_i y py el gs scope p q
      split
      · rename_i i hi
        split
        · rename_i ho
          split
          · rename_i hsw
            split
            · exact asg_lc G wf no t hi hsw
            · exact ps_nevZ
          · rename_i hsw
            exact asg_plain t hi ho (by rw [sw_lc tt.s t.k, Bool.eq_false_iff.mpr hsw]) (hpe _)
        · exact ps_nevZ
      · exact ps_nevZ
    · rename_i y py ke el gs scope p q
      split
      · rename_i i hi
        split
        · rename_i ho
          split
          · rename_i hsw
            split
            · exact asg_dc G wf no t hi hsw
            · exact ps_nevZ
          · rename_i hsw
            exact asg_plain t hi ho (by rw [sw_dc tt.s t.k, Bool.eq_false_iff.mpr hsw]) (hpe _)
        · exact ps_nevZ
      · exact ps_nevZ
    · rename_i y py e q _ _
      split
      · rename_i i hi
        split
        · rename_i hc
          obtain ⟨h1, h2⟩ := Bool.and_eq_true_iff.mp hc
          exact asg_plain t hi h1 (sw_none h2) (hpe _)
        · exact ps_nevZ
      · exact ps_nevZ
    · rename_i o m p e q
      split
      · rename_i f hf
        have e := G.at_ m f hf
        subst e
        exact ps_asaZ c wf (hpe _) (hpe _) sw_attr
      · exact ps_nevZ
    · split
      · rename_i hn
        obtain ⟨h1, h2⟩ := Bool.and_eq_true_iff.mp hn
        exact ps_asiZ c (hpe _) (hpe _) (hpe _) (sw_none h1)
      · exact ps_nevZ
    · rename_i ts m p e q
      split
      · rename_i x px y py a b m2 p2
        split
        · rename_i i j hi hj
          have hxN : X.N[i]? = some x := by rw [tt.N]; exact ixOf_get hi
          have hyN : X.N[j]? = some y := by rw [tt.N]; exact ixOf_get hj
          split
          · rename_i hp
            have hp' := hp
            unfold parB at hp'
            simp only [Bool.and_eq_true, Bool.not_eq_true'] at hp'
            obtain ⟨⟨⟨⟨⟨⟨⟨h1, h2⟩, h3⟩, h4⟩, h5⟩, h6⟩, h7⟩, h8⟩ := hp'
            have lc : ∀ z, locB sc z = true → X.env.scope.names.lookup z = some .local := fun z hz => by
              unfold locB at hz
              rw [tt.s]
              split at hz
              · assumption
              · cases hz
            refine ps_par2Z c hxN hyN (fun z => ?_) (lc x h1) (lc y h2) (hpe a) (hpe b) h5 h6 (store_two tt.s t.k hp)
            subst z
            rw [hxN] at hyN
            cases hyN
            simp at h4
          · split
            · rename_i hp
              simp only [Bool.and_eq_true] at hp
              obtain ⟨⟨h1, h2⟩, h3⟩ := hp
              have g1 := fun (z : PySem.Str) (pz : Pos) (iz : Nat) (hz : ownB sc z = true) (hN : X.N[iz]? = some z) => pg_nmZ (W := W) (pos := pz) c.nd hN (by rw [tt.s]; exact ownB_loc hz) (.inl (t.fn z))
              exact ps_asgZ rfl (hpe _) (pg_tpZ c.K c.hc (pgs_consZ (g1 x px i h2 hxN) (pgs_consZ (g1 y py j h3 hyN) pgs_nilZ rfl) rfl) rfl (fun ds σ σ' hq => by
                cases ds with
                | nil => cases hq
                | cons d1 ds =>
                  cases ds with
                  | nil => cases hq
                  | cons d2 ds =>
                    cases ds with
                    | nil => rfl
                    | cons _ _ => cases hq)) rfl (store_none tt.s h1)
            · exact ps_nevZ
        · exact ps_nevZ
      · split
        · rename_i lt ht
          split
          · rename_i hc
            obtain ⟨h1, h2⟩ := Bool.and_eq_true_iff.mp hc
            exact ps_asgZ rfl (hpe _) (toTg_ok c t.own tt.N _ _ _ ht) (sw_none (o := some (.Tuple ts m p)) (l := q.line) (env := X.env) h2) (store_none tt.s h1)
          · exact ps_nevZ
        · exact ps_nevZ
    · split
      · rename_i i hi
        split
        · rename_i hc
          simp only [Bool.and_eq_true, Bool.or_eq_true, beq_iff_eq] at hc
          exact ps_augZ hc.2 c.nd (by rw [tt.N]; exact ixOf_get hi) (by rw [tt.s]; exact ownB_loc hc.1) (hpe _) (.inl (t.fn _))
        · exact ps_nevZ
      · exact ps_nevZ
    · exact ps_ifZ (hpt _) (hss _) (hss _)
    · rename_i tg it b q
      split
      · rename_i lt ht
        split
        · rename_i hn
          refine ps_forZ t.po c.hc (toI_ok G tt hpe fun ht' => ?_) (toTg_ok c t.own tt.N _ _ _ ht) (hss _) (set_eq hn)
          cases tg <;> first
            | exact toTg_tp ht
            | cases ht'
        · exact ps_nevZ
      · exact ps_nevZ
    · exact ps_whlZ t.po (hpt _) (hss _)
    · exact ps_nevZ
end
end Z
end

section
set_option Elab.async false
set_option linter.all false
set_option maxRecDepth 100000
set_option maxHeartbeats 4000000
/-! Z, part 34: all defs keep what Phi tells; the law's call. -/
namespace Z
open PySem PySem.W PySem.Spec PyProof.Rows L2 PySem.SeqAt
section
variable {W : Wd} {T : Tab} {g : Gh} {S : List O} {Wn n : Nat}
theorem phi_out2 {f : Nat} {F : FnDef} {ds : List D} {Ex : XK} {Q : VK} {H0 : Hp} (hF : T.fns.lookup f = some F) (rs : RS W g S H0) (o : Out W Ex g (Phi T Wn (n + 1) f ds S) Q) : (ds.length ≤ F.ps ∧ F.ps ≤ ds.length + F.dfl.length) ∧
    OutF W (fun cls d _ H => Ex cls d H) { nx := fun _ H' => Q .non H', rt := Q } g (exs T (Phi T Wn n) Wn F.body ((ds ++ F.dfl.drop (F.dfl.length - (F.ps - ds.length))).map some ++ List.replicate (F.n - (ds ++ F.dfl.drop (F.dfl.length - (F.ps - ds.length))).length) none) S) := by
  unfold Phi at o
  rw [hF] at o
  dsimp only at o
  by_cases hl : ds.length ≤ F.ps ∧ F.ps ≤ ds.length + F.dfl.length
  case neg =>
    rw [if_neg hl] at o
    exact o.elim
  rw [if_pos hl] at o
  refine ⟨hl, ?_⟩
  generalize ds ++ F.dfl.drop (F.dfl.length - (F.ps - ds.length)) = args at o ⊢
  cases hx : exs T (Phi T Wn n) Wn F.body (args.map some ++ List.replicate (F.n - args.length) none) S with
  | ok r S' =>
    rw [hx] at o
    cases r with
    | rt d =>
      intro g' H' v l rs' rd
      dsimp only at o
      split at o
      · exact fin_out rs o l rs' rd
      · exact o g' H' v l rs' rd
    | nx σd =>
      intro g' H' σ' l rs' _
      dsimp only at o
      split at o
      · exact fin_out rs o l rs' rfl
      · exact o g' H' .non l rs' rfl
    | er e σd => exact fun g' σ' l _ => finE_out rs o l
    | bk σd => exact o.elim
    | ct σd => exact o.elim
  | err e S' => rw [hx] at o; exact o.elim
  | bad => rw [hx] at o; exact o.elim
/-- what is known of a def -/
def FnF (W : Wd) (T : Tab) (f : Nat) (F : FnDef) : Prop :=
  ∃ (name qual : PySem.Str) (params : Arguments) (body : List Stmt) (scope : Scope) (dvs : List V) (fd : FuncData) (N ps : List PySem.Str) (Γ : Gm) (fuel : Nat),
    FunD W.K name qual params body scope dvs [] (W.fnA f) fd ∧ FnScope N ps scope ∧ ps.length = F.ps ∧ N.length = F.n ∧ Γ.N = N ∧ Gok W Γ ∧ F.body = ssL (toS Γ scope fuel) body ∧
    ∀ m, m ≤ F.ps → F.ps ≤ m + F.dfl.length → ∃ ds dv, Vals dv ds ∧ (∀ g, RDs W g (F.dfl.drop (F.dfl.length - (F.ps - m))) dv) ∧ Binds W.K fd ps ds ∧ m + ds.length = F.ps
theorem fnz_next (wf : Wf W T) (no : NoOps T) {f : Nat} {F : FnDef} (hF : T.fns.lookup f = some F) (ff : FnF W T f F) (fz : ∀ f', FnZ W (Phi T Wn n) n f') : FnZ W (Phi T Wn (n + 1)) (n + 1) f := by
  obtain ⟨name, qual, params, body, scope, dvs, fd, N, ps, Γ, fuel, FD, Sc, hps, hN, hΓ, G, hb, hdf⟩ := ff
  obtain ⟨oc, od, dV, kV, doc, pm, an, cdv, ct, osl, rfl, lk, hcd, _, _⟩ := FD.ex
  intro A outer s H us vs ds g S Q Ex hr hg e0 rv rs rd o
  obtain ⟨hl, o'⟩ := phi_out2 hF rs o
  obtain ⟨es, dv, rdv, rde, hbd, hlen⟩ := hdf ds.length hl.1 hl.2
  have hlu : us.length = ds.length := by rw [← rv.length, rd.length]
  have rd2 : RDs W g (ds ++ F.dfl.drop (F.dfl.length - (F.ps - ds.length))) (vs ++ dv) := rd.append (rde g)
  have rv2 : Vals (vs ++ dv) (us ++ es) := rv.append rdv
  have hlv : (vs ++ dv).length = ps.length := by
    rw [List.length_append, ← rd.length, rdv.length, hps]
    exact hlen
  have KX : W.K.In s.heap := e0.mod.kin.keeps fun b o e => (e0.bs b o e).1
  have limt : s.heap.NoLimit := e0.mod.nolimit.keeps fun b o e => (e0.bs b o e).1
  have hkind : ∀ y ∈ ps.zip (us ++ es), scope.names.lookup y.1 = some .local ∨ (scope.names.lookup y.1 = some .cell ∧ ((cellsFrom (s.heap.objs.size + 1) scope.names []).lookup y.1).isSome = true) := fun ⟨n, v⟩ hy => by
    rcases Sc.par n (List.of_mem_zip hy).1 with q | q
    · exact .inl q
    · exact .inr ⟨q, PySem.W.cellsFrom_some _ _ _ (.inl q)⟩
  have hbind := hbd s us KX (by rw [List.length_append, hlu, hps]; exact hlen)
  have hr' : Room (2 * n + 3) A := hr
  refine codeAny_call_function hr.depth (KX _ _ lk) rfl Sc.co Sc.gen rfl (PySem.W.codeRec_of KX hcd) (hbind _ _ _ _ ?_)
  refine wpAny_newFunctionEnv_cells Sc.kind hkind fun env he s1 x => ?_
  subst he
  refine ⟨limt.keeps x.toInCall.keep, codeAny_func ?_⟩
  have I : Inv (cxOf (L2.CX W.P W.w) W.P W.w W.K W.mg W.base N qual scope (W.fnA f) cdv A outer s H Ex) [] (L2.start N (vs ++ dv)) H s1 := inv_start Sc hr.hd e0 hlv rv2 x
  have c : Cs W (Phi T Wn n) n (fun cls d _ H => Ex cls d H) (cxOf (L2.CX W.P W.w) W.P W.w W.K W.mg W.base N qual scope (W.fnA f) cdv A outer s H Ex) :=
    ⟨rfl, rfl, rfl, rfl, rfl, rfl, Sc.nd, Room.deeper (k := 2 * n + 2) hr' _, hg, fz, takes_of (E := Ex) rfl rfl rfl rfl⟩
  have t : AtS W (Phi T Wn n) n Γ scope (fun cls d _ H => Ex cls d H) (cxOf (L2.CX W.P W.w) W.P W.w W.K W.mg W.base N qual scope (W.fnA f) cdv A outer s H Ex) :=
    ⟨⟨c, rfl, hΓ.symm⟩, Sc.kind, fun _ => rfl, passes_of rfl⟩
  have ht := pss_all (Wn := Wn) (fun st => toS_ok (Wn := Wn) G wf no fuel st t) body
  rw [← hb] at ht
  have rst := rst_start (N := N) rd2
  rw [hN] at rst
  refine wpAny_mono (ht.run [] s1 (L2.start N (vs ++ dv)) H _ I ⟨g, S, _, rs, rst, o'⟩) (fun fl s' hs => ?_) fun e s' hs => hs
  have fin : ∀ {σ' : L2.St} {H' : Hp} {v : V} {u : Value}, Inv (cxOf (L2.CX W.P W.w) W.P W.w W.K W.mg W.base N qual scope (W.fnA f) cdv A outer s H Ex) [] σ' H' s' → RelV v u → Q v H' → CE outer W.P W.w H s Q u s' :=
    fun {σ' H' v u} J rv q => ⟨v, H', J.os, J.bare, J.base, J.hok, rv, q⟩
  cases fl with
  | ret u =>
    obtain ⟨v, σ', H', J, rv, q⟩ := hs
    exact fin J rv q
  | next =>
    obtain ⟨σ', H', J, q⟩ := hs
    exact fin (v := V.non) (u := Value.none) J rfl q
  | brk =>
    obtain ⟨_, _, _, q⟩ := hs
    exact False.elim q
  | cont =>
    obtain ⟨_, _, _, q⟩ := hs
    exact False.elim q
theorem all_fnz (wf : Wf W T) (no : NoOps T) (ff : ∀ f F, T.fns.lookup f = some F → FnF W T f F) : ∀ n f, FnZ W (Phi T Wn n) n f
  | 0, f => fun A outer s H us vs ds g S Q Ex hr hg e0 rv rs rd o => o.elim
  | n + 1, f => by
    cases hF : T.fns.lookup f with
    | some F => exact fnz_next wf no hF (ff f F hF) (all_fnz wf no ff n)
    | none =>
      intro A outer s H us vs ds g S Q Ex hr hg e0 rv rs rd o
      unfold Phi at o
      rw [hF] at o
      exact o.elim
end
/-- what the law's text is, over every base -/
structure Good (P : Program) (w : World) (K : PySem.W.Frag) (mg : PySem.Str → Option Value) (T : Tab) (fl : Nat) (fa : Addr) : Prop where
  ok : ∀ base : Heap, ∃ W : Wd, W.P = P ∧ W.w = w ∧ W.K = K ∧ W.mg = mg ∧ W.base = base ∧ W.fnA fl = fa ∧ Wf W T ∧ ∀ f F, T.fns.lookup f = some F → FnF W T f F
theorem law_run {P : Program} {w : World} {K : PySem.W.Frag} {mg mb : PySem.Str → Option Value} {T : Tab} {Wn n fl : Nat} {fa a : Addr} {s₁ : Shared} {vs : List Value} {ns : List Int}
    (KX : K.In s₁.heap) (hns : s₁.heap.Ns mainGlobals mg) (hb : s₁.heap.Ns builtinsNs mb) (hbb : ∀ x : PySem.Str, x ≠ "__name__" → mb x = bootBuiltins x) (hlim : s₁.heap.NoLimit) (hg : s₁.gens = #[])
    (ha : s₁.heap.get? a = some { cls := .type "list", data := .seq vs.toArray }) (hi : IntsAre vs ns) (hl : ns.length ≤ sizeLine) (hr : Room (2 * n + 1) callerA)
    (G : Good P w K mg T fl fa) (no : NoOps T) (hlaw : ∃ S', Phi T Wn n fl [.scr (ns.map .int)] [] = .ok (.bl true) S') :
    codeAny (model P w) callerA (.call (.ref fa) ⟨[.ref a], []⟩) (fun r s' => r = .ok (.ret (.bool true)) ∧ OldK s₁.heap s'.heap ∧ s'.os = s₁.os ∧ AllBare s'.gens) s₁ := by
  have rv := vals_ints hi
  have lenV := hi.length
  -- nothing but the script may be tracked at the start
  have core : ∀ H : Hp, L2.Only H → SqL K H a (ns.map V.int) → HOk P w H s₁.heap → (∀ b, H b ≠ none → b = a) → (H a ≠ none → K.lookup a = none) →
      codeAny (model P w) callerA (.call (.ref fa) ⟨[.ref a], []⟩) (fun r s' => r = .ok (.ret (.bool true)) ∧ OldK s₁.heap s'.heap ∧ s'.os = s₁.os ∧ AllBare s'.gens) s₁ := by
    intro H hO hS hok hA hK
    have at_base : ∀ {b : Addr} {o : Obj}, s₁.heap.get? b = some o → H b = none → (hidT s₁.heap H).get? b = some o := fun e n => hidT_get e n
    have free_d : ∀ {b : Addr} {o : Obj} {es : Array DictEntry} {ep : Nat}, s₁.heap.get? b = some o → o.data = .dict es ep → H b = none := fun {b o es ep} e d => by
      cases q : H b with
      | none => rfl
      | some u =>
        have e' : b = a := hA b (by rw [q]; simp)
        subst e'
        rw [ha] at e; cases e
        have d' : Data.seq vs.toArray _ = Data.dict es ep := d
        cases d'
    have ns_at : ∀ {b : Addr} {m : PySem.Str → Option Value}, s₁.heap.Ns b m → (hidT s₁.heap H).Ns b m := fun {b m} ⟨o, es, ep, e, d, r⟩ => ⟨o, es, ep, at_base e (free_d e d), d, r⟩
    have K_at : K.In (hidT s₁.heap H) := fun b o e => at_base (KX b o e) (by
      cases q : H b with
      | none => rfl
      | some u =>
        have e' : b = a := hA b (by rw [q]; simp)
        subst e'
        rw [hK (by rw [q]; simp)] at e; cases e)
    have hM : Mod K mg (hidT s₁.heap H) := ⟨K_at, ns_at hns, ⟨mb, ns_at hb, hbb⟩, let ⟨mc, h1, h2⟩ := hlim; ⟨mc, ns_at h1, h2⟩⟩
    have e0 : Env0 P w K mg (hidT s₁.heap H) callerA [] s₁ H := ⟨rfl, hM, fun b o e => of_hidT e, Nat.le_of_eq (hidT_size _ _), trivial, fun b hb => absurd (show b ∈ ([] : List Addr) from hb) (by simp), hok, .of_eq hg⟩
    obtain ⟨W, rfl, rfl, rfl, rfl, hbase, rfl, wf, ff⟩ := G.ok (hidT s₁.heap H)
    rw [← hbase] at e0
    have fz := all_fnz (Wn := Wn) wf no ff n fl
    have rs : RS W ⟨H, [], fun _ => none⟩ [] H := ⟨rfl, fun _ _ e => e, List.nodup_nil, (fun _ h => by cases h), (fun _ _ e => by cases e), (fun _ _ e => by cases e), fun n o a e _ => by cases e⟩
    have rdi : ∀ ks : List Int, RDs W ⟨H, [], fun _ => none⟩ (ks.map D.int) (ks.map V.int) := fun ks => by
      induction ks with
      | nil => rfl
      | cons k ks ih => exact RDs.cons rfl ih
    have rd : RDs W ⟨H, [], fun _ => none⟩ [.scr (ns.map .int)] [.ref a] := RDs.cons ⟨a, _, rfl, hS, rdi ns⟩ RDs.nil
    have hout : Out W (fun _ _ _ => False) ⟨H, [], fun _ => none⟩ (Phi T Wn n fl [.scr (ns.map .int)] []) (fun v _ => v = .bl true) := by
      obtain ⟨S', hlaw⟩ := hlaw
      rw [hlaw]
      exact fun g' H' v _ _ r => r
    refine codeAny_mono (fz callerA [] s₁ H [.ref a] [.ref a] _ _ [] _ _ hr rfl e0 (.cons rfl .nil) rs rd hout) fun r s' h => ?_
    cases r with
    | error e =>
      have h' : L2.CX W.P W.w [] H s₁ (fun _ _ _ => False) e s' := h
      obtain ⟨_, _, _, _, _, _, _, _, _, _, _, _, z⟩ := h'
      exact z.elim
    | ok fl =>
      cases fl with
      | next => exact False.elim h
      | brk => exact False.elim h
      | cont => exact False.elim h
      | ret u =>
        obtain ⟨v, H', os, bare, un, hok', r', q⟩ := h
        have q' : v = .bl true := q
        subst q'
        obtain rfl : u = Value.bool true := r'
        refine ⟨rfl, OldK.of_keep fun b o e => ?_, os, bare⟩
        cases q : H b with
        | none => exact un.keep b o e q (by intro z; exact absurd (show b ∈ ([] : List Addr) from z) (by simp)) (by simp)
        | some u =>
          rcases hO b with z | ⟨ob, xs, z⟩
          · rw [q] at z; cases z
          · have z2 := un.frzs b ob _ z
            obtain ⟨e1, _⟩ := hok b _ z
            obtain ⟨e2, _⟩ := hok' b _ z2
            rw [e] at e1; cases e1
            exact e2
  cases hk : K.lookup a with
  | some o =>
    have e := KX a o hk
    rw [ha] at e
    cases e
    refine core (fun _ => none) (fun _ => .inl rfl) (.inr ⟨_, vs.toArray, _, hk, rfl, rfl, rfl, by rw [List.size_toArray, lenV]; exact hl, by simpa using rv⟩) (fun b u z => by cases z) (fun b z => absurd rfl z) fun z => absurd rfl z
  | none =>
    refine core (fun b => if b = a then some (.frz { cls := .type "list", data := .seq vs.toArray } (.lst (ns.map V.int))) else none) (fun b => ?_) (.inl (.inr ⟨{ cls := .type "list", data := .seq vs.toArray }, if_pos rfl⟩)) (fun b u z => ?_) (fun b z => ?_) fun _ => hk
    · by_cases hb : b = a
      · exact .inr ⟨_, _, if_pos hb⟩
      · exact .inl (if_neg hb)
    · by_cases hb : b = a
      · have z' := (if_pos hb).symm.trans z
        cases z'
        subst hb
        exact ⟨ha, by rw [List.length_map]; exact hl, vs, _, rv, ha⟩
      · have z' := (if_neg hb).symm.trans z
        cases z'
    · by_cases hb : b = a
      · exact hb
      · exact absurd (if_neg hb) z
/-- THE END: the law's walk, from what its text is and what Phi tells -/
theorem walk_ofZ {l : PySem.W.OpenLaw} {m n Wn fl : Nat} {q : Program} {loose : List PySem.Str} {XP : (PySem.Str → Option Value) → Heap → Prop} {YP : World → Heap → Prop} {d : DefRec} {T : Tab}
    (hn : l.most = some m) (hn2 : m ≤ sizeLine) (hdf : d.params.defaults = []) (hr : Room (2 * n + 1) callerA) (no : NoOps T)
    (F : ∀ (w : World) (mg : PySem.Str → Option Value) (fa : Addr) (h : Heap), YP w h → h.Ns mainGlobals mg → mg d.name = some (.ref fa) → ∃ K : PySem.W.Frag, K.In h ∧ Good l.prog w K mg T fl fa)
    (hlaw : ∀ ns : List Int, ns.length ≤ m → ∃ S', Phi T Wn n fl [.scr (ns.map .int)] [] = .ok (.bl true) S') :
    PySem.W.WalkO q loose XP YP l.row.toRowW d [] (fun f vs => PySem.call f vs) := by
  refine Att.attach_call hn hdf fun w s₀ s₁ mg mb fa o pm cd doc a vs ns G Y ho hd hcd hmg hobj hints hlen hg => ?_
  obtain ⟨K, KX, good⟩ := F w mg fa _ Y G.T.g hmg
  exact law_run KX G.T.g G.T.b G.T.builtins G.T.nolimit hg hobj hints (Nat.le_trans hlen hn2) hr good no (hlaw ns hlen)
end Z
end

section
set_option Elab.async false
set_option linter.all false
set_option maxRecDepth 100000
set_option maxHeartbeats 4000000
/-! Z, part 35: what the head reads of a text. -/
namespace Z
open PySem PySem.W PySem.Spec PyProof.Rows L2 PySem.SeqAt
/-- where a function stands -/
inductive Pth where
  | glo (x : PySem.Str) | mth (c m : PySem.Str) | prp (c m : PySem.Str)
  deriving DecidableEq
def prAt (K : PySem.W.Frag) (C : Addr) (m : PySem.Str) : Addr := match PySem.W.findIn K (.ref C) m with
  | some (some (.ref p)) => p
  | _ => 0
def pAd (K : PySem.W.Frag) : Pth → Addr
  | .glo x => He.ga K x
  | .mth c m => He.ma K (He.ga K c) m
  | .prp c m => match PySem.W.recIn K (prAt K (He.ga K c) m) "property" with
    | some (.ref f :: _) => f
    | _ => 0
/-- a def of the text -/
structure DfZ where
  at_ : Pth
  name : PySem.Str
  qual : PySem.Str
  params : Arguments
  body : List Stmt
  scope : Scope
  dfl : List He.Dv := []
  /-- its only default is the empty tuple -/
  emp : Bool := false
/-- a def's only default, an object -/
def emA (p : Pth) (K : PySem.W.Frag) : Addr := match K.lookup (pAd K p) with
  | some ⟨_, _, .func fd, _⟩ => (match fd.defaults with
    | .ref T => (match K.lookup T with
      | some ⟨_, _, .seq its _, _⟩ => (match its.toList with
        | [.ref a] => a
        | _ => 0)
      | _ => 0)
    | _ => 0)
  | _ => 0
def emB (K : PySem.W.Frag) (a : Addr) : Bool := match K.lookup a with
  | some ⟨.type t, none, .seq its _, _⟩ => t == "tuple" && its.size == 0
  | _ => false
abbrev FnW : Type := Option (PySem.Str × PySem.Str × Arguments × FuncBody × Scope × Addr × List (PySem.Str × Addr) × Addr)
def fnWz (K : PySem.W.Frag) (p : Pth) : FnW := match K.lookup (pAd K p) with
  | some ⟨_, _, .func fd, _⟩ => some (fd.name, fd.qualname, fd.params, fd.body, fd.scope, fd.globals, fd.closure, fd.builtins)
  | _ => none
def DfZ.val (d : DfZ) : FnW := some (d.name, d.qual, d.params, .stmts d.body, d.scope, mainGlobals, [], builtinsNs)
def DfZ.dvs (K : PySem.W.Frag) (d : DfZ) : List V := d.dfl.map (He.Dv.v K)
def DfZ.ok0 (K : PySem.W.Frag) (d : DfZ) : Bool := PySem.W.keepIn K (.ref (pAd K d.at_)) && (match K.lookup (pAd K d.at_) with
  | some ⟨_, _, .func fd, _⟩ => PySem.W.codeIn K fd.code d.qual && (He.dflB K fd.defaults (d.dvs K) && He.kwdB K fd.kwdefaults [])
  | _ => false)
def DfZ.ok (K : PySem.W.Frag) (d : DfZ) : Bool := (!d.emp || emB K (emA d.at_ K)) && d.ok0 K
theorem DfZ.funD {K : PySem.W.Frag} {d : DfZ} (e : fnWz K d.at_ = d.val) (c : d.ok0 K = true) : ∃ fd, FunD K d.name d.qual d.params d.body d.scope (d.dvs K) [] (pAd K d.at_) fd := by
  obtain ⟨kp, c2⟩ := He.ba c
  unfold fnWz at e
  cases q : K.lookup (pAd K d.at_) with
  | none =>
    rw [q] at c2
    cases c2
  | some o =>
    obtain ⟨oc, od, dt, osl⟩ := o
    rw [q] at c2 e
    cases dt with
    | func fd =>
      obtain ⟨n1, n2, n3, n4, n5, n6, n7, n8, n9, n10, n11, n12, n13, n14, n15⟩ := fd
      have e2 : (some (n1, n2, n3, n4, n5, n6, n7, n15) : FnW) = some (d.name, d.qual, d.params, .stmts d.body, d.scope, mainGlobals, [], builtinsNs) := e
      simp only [Option.some.injEq, Prod.mk.injEq] at e2
      obtain ⟨h1, h2, h3, h4, h5, h6, h7, h8⟩ := e2
      subst h1 h2 h3 h4 h5 h6 h7 h8
      have c3 : (PySem.W.codeIn K n13 d.qual && (He.dflB K n8 (d.dvs K) && He.kwdB K n9 [])) = true := c2
      obtain ⟨k1, k2⟩ := He.ba c3
      obtain ⟨k3, k4⟩ := He.ba k2
      exact ⟨_, ⟨oc, od, n8, n9, n10, n11, n12, n13, n14, osl, rfl, q, k1, He.dflB_ok k3, He.kwdB_ok k4⟩, kp⟩
    | _ => cases c2
/-- a law's tables -/
structure Sys where
  T : Tab
  glN : List (PySem.Str × Nat)
  clN : List (PySem.Str × Nat)
  atN : List (PySem.Str × Nat)
  cst : List (PySem.Str × D)
  blt : List PySem.Str
  pth : List (Nat × Pth)
  cls : List (Nat × PySem.Str)
  defs : List (Nat × DfZ)
  /-- the errors' base class, the text's file -/
  errD : PySem.Str := Str.empty
  file : PySem.Str := Str.empty
def Sys.fA (Y : Sys) (K : PySem.W.Frag) (f : Nat) : Addr := pAd K ((Y.pth.lookup f).getD (.glo Str.empty))
def Sys.cN (Y : Sys) (c : Nat) : PySem.Str := (Y.cls.lookup c).getD Str.empty
/-- names by numbers: those that are none are zeros, one more than the number -/
def fldZ (l : List (Nat × PySem.Str)) (i : Nat) : PySem.Str := match l.lookup i with
  | some x => x
  | none => ⟨Array.replicate (i + 1) 0⟩
def Sys.fl (Y : Sys) (i : Nat) : PySem.Str := fldZ (Y.atN.map fun p => (p.2, p.1)) i
def Sys.W (Y : Sys) (P : Program) (w : World) (K : PySem.W.Frag) (mg : PySem.Str → Option Value) (base : Heap) : Wd := ⟨P, w, K, mg, base, Y.fA K, fun c => He.ga K (Y.cN c), Y.fl⟩
/-! the names are all unlike -/
def sepB (l : List (Nat × PySem.Str)) : Bool := (l.map (·.2)).all (fun x => x.cps.toList.head? != some 0) && decide ((l.map (·.2)).Nodup)
theorem mem_lk {α β : Type} [BEq α] [LawfulBEq α] {x : α} {y : β} : ∀ {l : List (α × β)}, l.lookup x = some y → (x, y) ∈ l
  | [], e => by cases e
  | (a, b) :: l, e => by
    rw [List.lookup_cons] at e
    split at e
    · rename_i hb
      cases e
      rw [beq_iff_eq.mp hb]
      exact List.mem_cons_self ..
    · exact List.mem_cons_of_mem _ (mem_lk e)
theorem fldZ_inj {l : List (Nat × PySem.Str)} (h : sepB l = true) : ∀ i j, fldZ l i = fldZ l j → i = j := by
  obtain ⟨h1, h2⟩ := Bool.and_eq_true_iff.mp h
  have nd : (l.map (·.2)).Nodup := of_decide_eq_true h2
  have key : ∀ (l : List (Nat × PySem.Str)), (l.map (·.2)).Nodup → ∀ i j x, l.lookup i = some x → l.lookup j = some x → i = j := by
    intro l nd i j x hi hj
    have mi := mem_lk hi
    have mj := mem_lk hj
    obtain ⟨a, ha⟩ := List.mem_iff_getElem?.mp mi
    obtain ⟨b, hb⟩ := List.mem_iff_getElem?.mp mj
    have e1 : (l.map (·.2))[a]? = some x := by rw [List.getElem?_map, ha]; rfl
    have e2 : (l.map (·.2))[b]? = some x := by rw [List.getElem?_map, hb]; rfl
    have hal : a < (l.map (·.2)).length := (List.getElem?_eq_some_iff.mp e1).1
    have : a = b := (List.getElem?_inj hal nd).mp (e1.trans e2.symm)
    subst this
    rw [ha] at hb
    cases hb
    rfl
  have no0 : ∀ i x k, l.lookup i = some x → x ≠ ⟨Array.replicate (k + 1) 0⟩ := fun i x k hi e => by
    have m := mem_lk hi
    have := List.all_eq_true.mp h1 x (List.mem_map.mpr ⟨_, m, rfl⟩)
    rw [e] at this
    simp [List.replicate_succ] at this
  intro i j e
  unfold fldZ at e
  cases hi : l.lookup i with
  | some x =>
    cases hj : l.lookup j with
    | some y =>
      rw [hi, hj] at e
      have e' : x = y := e
      subst e'
      exact key l nd i j x hi hj
    | none =>
      rw [hi, hj] at e
      exact absurd e (no0 i x j hi)
  | none =>
    cases hj : l.lookup j with
    | some y =>
      rw [hi, hj] at e
      exact absurd e.symm (no0 j y i hj)
    | none =>
      rw [hi, hj] at e
      have e1 : Array.replicate (i + 1) (0 : Nat) = Array.replicate (j + 1) 0 := by injection e
      have e2 := congrArg Array.size e1
      simpa using e2
/-! what is asked of the heap -/
def cstB (K : PySem.W.Frag) (x : PySem.Str) : D → Bool
  | .int i => (He.Fa.int x i).ok K
  | .str z => (He.Fa.str x z).ok K
  | _ => false
def iclB (K : PySem.W.Frag) (x : PySem.Str) : Bool := (He.Fa.cls x).ok K && decide (PySem.W.findIn K (.ref (He.ga K x)) "__class__" = some (some (.builtin "object.__class__"))) &&
  decide (PySem.W.specialIn K (.builtin "object.__class__") "__get__" = some (some (.builtin "getset_descriptor.__get__"))) && decide (PySem.W.takesIn K (.builtin "object.__class__") = some true) && decide (PySem.W.mroIn K (He.ga K x) (.type "object") = some true)
def prpB (K : PySem.W.Frag) (x m : PySem.Str) : Bool := decide (PySem.W.findIn K (.ref (He.ga K x)) m = some (some (.ref (prAt K (He.ga K x) m)))) && decide (PySem.W.specialIn K (.ref (prAt K (He.ga K x) m)) "__get__" = some (some (.builtin "property.__get__"))) &&
  decide (PySem.W.takesIn K (.ref (prAt K (He.ga K x) m)) = some true) && (match PySem.W.recIn K (prAt K (He.ga K x) m) "property" with
    | some (.ref _ :: _) => true
    | _ => false)
def kds (Y : Sys) : List Kd := .verr :: .non :: ([.int, .str, .bool, .tuple, .list, .dict, .valueError] : List Ty).map .ty ++ Y.T.inst.map .cls ++ Y.T.errs.map .exc
def kus (Y : Sys) : List D := ([.int, .str, .bool, .tuple, .list, .dict, .valueError] : List Ty).map .ty ++ Y.T.inst.map .cls ++ Y.T.errs.map .cls
def kdA (Y : Sys) (K : PySem.W.Frag) : Kd → Value
  | .non => .type "NoneType"
  | .ty t => .type (tyN t)
  | .cls c => .ref (He.ga K (Y.cN c))
  | .exc c => .ref (He.ga K (Y.cN c))
  | .verr => .type "ValueError"
def usA (Y : Sys) (K : PySem.W.Frag) : D → Value
  | .ty t => .type (tyN t)
  | .cls c => .ref (He.ga K (Y.cN c))
  | _ => .none
/-- all that is read of the heap -/
def Sys.chk (Y : Sys) (K : PySem.W.Frag) : Bool :=
  (Y.glN.all fun p => (He.Fa.glo p.1).ok K && PySem.W.keepIn K (.ref (He.ga K p.1))) &&
  (Y.clN.all fun p => (He.Fa.glo p.1).ok K && PySem.W.keepIn K (.ref (He.ga K p.1))) &&
  (Y.cst.all fun p => cstB K p.1 p.2) &&
  (Y.blt.all fun x => (He.Fa.free x).ok K) &&
  (Y.T.meth.all fun p => (He.Fa.cls (Y.cN p.1.1)).ok K && (He.Fa.meth (Y.cN p.1.1) (Y.fl p.1.2)).ok K && PySem.W.fnIn K (Y.fA K p.2) && PySem.W.noSeq K (He.ga K (Y.cN p.1.1))) &&
  (Y.T.inst.all fun c => iclB K (Y.cN c)) &&
  (Y.T.prop.all fun p => prpB K (Y.cN p.1.1) (Y.fl p.1.2)) &&
  (Y.T.flds.all fun p => (He.Fa.noat (Y.cN p.1) (Y.fl p.2)).ok K) &&
  (Y.T.cls.all fun p => match p.2.init with
    | some _ => (He.Fa.mkr (Y.cN p.1)).ok K
    | none => true) &&
  ((kds Y).all fun k => (kus Y).all fun u => match Y.T.isa k u with
    | some b => decide (PySem.W.kitOne K (kdA Y K k) (usA Y K u) = some b)
    | none => true) &&
  (Y.T.errs.isEmpty || iniB K Y.file (He.ma K (He.ga K Y.errD) "__init__") (He.ga K Y.errD)) &&
  (Y.T.errs.all fun c => errB0 K (He.ma K (He.ga K Y.errD) "__init__") (He.ga K Y.errD) (He.ga K (Y.cN c)))
/-- what is read off the tables alone -/
def Sys.sta (Y : Sys) : Bool :=
  (Y.glN.all fun p => decide (Y.pth.lookup p.2 = some (.glo p.1))) &&
  (Y.clN.all fun p => decide (Y.cls.lookup p.2 = some p.1)) &&
  (Y.atN.all fun p => decide (Y.fl p.2 = p.1)) &&
  (Y.T.meth.all fun p => decide (Y.pth.lookup p.2 = some (.mth (Y.cN p.1.1) (Y.fl p.1.2)))) &&
  (Y.T.prop.all fun p => decide (Y.pth.lookup p.2 = some (.prp (Y.cN p.1.1) (Y.fl p.1.2)))) &&
  (Y.T.cls.all fun p => match p.2.init with
    | some f => decide (Y.pth.lookup f = some (.mth (Y.cN p.1) "__init__"))
    | none => true) &&
  decide (Y.fl Y.T.nmLen = "__len__") && decide (Y.fl Y.T.nmGet = "__getitem__") && decide (Y.fl Y.T.nmIn = "__contains__") && decide (Y.fl Y.T.nmEq = "__eq__") &&
  sepB (Y.atN.map fun p => (p.2, p.1)) &&
  (Y.T.meth.all fun p => p.1.2 != Y.T.nmAdd && p.1.2 != Y.T.nmSub && p.1.2 != Y.T.nmOr) &&
  (Y.T.errs.isEmpty || (decide (Y.fl Y.T.nmVal = "value") && Y.blt.contains ("super" : PySem.Str)))
/-- what is read off the program -/
def Sys.pok (Y : Sys) (P : Program) : Bool := Y.T.errs.isEmpty || ((P.main.file == Y.file) && !(P.main.scope.names.lookup ("super" : PySem.Str)).isSome)
/-- the names of a def of these tables -/
def Sys.gm (Y : Sys) (N : List PySem.Str) (mus : List (Nat × Nat)) : Gm := ⟨N, Y.glN, Y.clN, Y.atN, Y.cst, Y.blt, mus⟩
section
variable {Y : Sys} {P : Program} {w : World} {K : PySem.W.Frag} {mg : PySem.Str → Option Value} {base h : Heap}
theorem all_lookup {α β : Type} [BEq α] [LawfulBEq α] {l : List (α × β)} {p : α × β → Bool} (h : l.all p = true) {x : α} {y : β} (e : l.lookup x = some y) : p (x, y) = true := by
  induction l with
  | nil => cases e
  | cons q l ih =>
    obtain ⟨a, b⟩ := q
    rw [List.all_cons, Bool.and_eq_true] at h
    rw [List.lookup_cons] at e
    split at e
    · rename_i hb
      cases e
      rw [beq_iff_eq.mp hb]
      exact h.1
    · exact ih h.2 e
theorem gok_of (X : K.In h) (G : h.Ns mainGlobals mg) (hs : Y.sta = true) (hc : Y.chk K = true) (N : List PySem.Str) (mus : List (Nat × Nat)) : Gok (Y.W P w K mg base) (Y.gm N mus) := by
  unfold Sys.sta at hs
  unfold Sys.chk at hc
  simp only [Bool.and_eq_true] at hs hc
  obtain ⟨⟨⟨⟨⟨⟨⟨⟨⟨⟨⟨c1, c2⟩, c3⟩, c4⟩, c5⟩, c6⟩, c7⟩, c8⟩, c9⟩, c10⟩, c11⟩, c12⟩ := hc
  obtain ⟨⟨⟨⟨⟨⟨⟨⟨⟨⟨⟨⟨s1, s2⟩, s3⟩, s4⟩, s5⟩, s6⟩, s7⟩, s8⟩, s9⟩, s10⟩, s11⟩, s12⟩, s13⟩ := hs
  refine ⟨fun x f e => ?_, fun x c e => ?_, fun x f e => ?_, fun x d e => ?_, fun x e => ?_⟩
  · obtain ⟨q1, q2⟩ := Bool.and_eq_true_iff.mp (all_lookup c1 e)
    have q3 := of_decide_eq_true (all_lookup s1 e)
    have ea : Y.fA K f = He.ga K x := by
      unfold Sys.fA
      rw [show Y.pth.lookup f = some (.glo x) from q3]
      rfl
    show mg x = some (.ref (Y.fA K f)) ∧ PySem.W.keepIn K (.ref (Y.fA K f)) = true
    rw [ea]
    exact ⟨He.glo_ok X G q1, q2⟩
  · obtain ⟨q1, q2⟩ := Bool.and_eq_true_iff.mp (all_lookup c2 e)
    have q3 := of_decide_eq_true (all_lookup s2 e)
    have ea : Y.cN c = x := by
      unfold Sys.cN
      rw [show Y.cls.lookup c = some x from q3]
      rfl
    show mg x = some (.ref (He.ga K (Y.cN c))) ∧ PySem.W.keepIn K (.ref (He.ga K (Y.cN c))) = true
    rw [ea]
    exact ⟨He.glo_ok X G q1, q2⟩
  · exact of_decide_eq_true (all_lookup s3 e)
  · have q := all_lookup c3 e
    cases d <;> first
      | (cases q; done)
      | skip
    · obtain ⟨t, ht⟩ := He.int_ok X G (show (He.Fa.int x _).ok K = true from q)
      exact ⟨_, .int _, ht, ⟨t, rfl⟩, fun _ => rfl⟩
    · obtain ⟨t, ht⟩ := He.str_ok X G (show (He.Fa.str x _).ok K = true from q)
      exact ⟨_, .str _, ht, ⟨t, rfl⟩, fun _ => rfl⟩
  · exact He.free_ok X G (List.all_eq_true.mp c4 x (List.contains_iff_mem.mp e))
theorem wf_of (X : K.In h) (G : h.Ns mainGlobals mg) (hp : Y.pok P = true) (hs : Y.sta = true) (hc : Y.chk K = true) : Wf (Y.W P w K mg base) Y.T := by
  unfold Sys.sta at hs
  unfold Sys.chk at hc
  simp only [Bool.and_eq_true] at hs hc
  obtain ⟨⟨⟨⟨⟨⟨⟨⟨⟨⟨⟨c1, c2⟩, c3⟩, c4⟩, c5⟩, c6⟩, c7⟩, c8⟩, c9⟩, c10⟩, c11⟩, c12⟩ := hc
  obtain ⟨⟨⟨⟨⟨⟨⟨⟨⟨⟨⟨⟨s1, s2⟩, s3⟩, s4⟩, s5⟩, s6⟩, s7⟩, s8⟩, s9⟩, s10⟩, s11⟩, s12⟩, s13⟩ := hs
  have me : ∀ c m f, Y.T.meth.lookup (c, m) = some f → ((He.Fa.cls (Y.cN c)).ok K = true ∧ (He.Fa.meth (Y.cN c) (Y.fl m)).ok K = true ∧ PySem.W.fnIn K (Y.fA K f) = true ∧ PySem.W.noSeq K (He.ga K (Y.cN c)) = true) ∧ Y.fA K f = He.ma K (He.ga K (Y.cN c)) (Y.fl m) := fun c m f e => by
    have q := all_lookup c5 e
    simp only [Bool.and_eq_true] at q
    have q3 := of_decide_eq_true (all_lookup s4 e)
    refine ⟨⟨q.1.1.1, q.1.1.2, q.1.2, q.2⟩, ?_⟩
    unfold Sys.fA
    rw [show Y.pth.lookup f = some (.mth (Y.cN c) (Y.fl m)) from q3]
    rfl
  have ty1 : ∀ t : Ty, Kd.ty t ∈ kds Y := fun t => by
    refine List.mem_append_left _ (List.mem_cons_of_mem _ (List.mem_cons_of_mem _ (List.mem_append_left _ (List.mem_map.mpr ⟨t, ?_, rfl⟩))))
    cases t <;> simp
  have ty2 : ∀ t : Ty, D.ty t ∈ kus Y := fun t => by
    refine List.mem_append_left _ (List.mem_append_left _ (List.mem_map.mpr ⟨t, ?_, rfl⟩))
    cases t <;> simp
  have cl1 : ∀ c, Y.T.inst.contains c = true → Kd.cls c ∈ kds Y := fun c h => List.mem_append_left _ (List.mem_cons_of_mem _ (List.mem_cons_of_mem _ (List.mem_append_right _ (List.mem_map.mpr ⟨c, List.contains_iff_mem.mp h, rfl⟩))))
  have cl2 : ∀ c, Y.T.inst.contains c = true → D.cls c ∈ kus Y := fun c h => List.mem_append_left _ (List.mem_append_right _ (List.mem_map.mpr ⟨c, List.contains_iff_mem.mp h, rfl⟩))
  have er1 : ∀ c, Y.T.errs.contains c = true → Kd.exc c ∈ kds Y := fun c h => List.mem_append_right _ (List.mem_map.mpr ⟨c, List.contains_iff_mem.mp h, rfl⟩)
  have er2 : ∀ c, Y.T.errs.contains c = true → D.cls c ∈ kus Y := fun c h => List.mem_append_right _ (List.mem_map.mpr ⟨c, List.contains_iff_mem.mp h, rfl⟩)
  have no1 : Kd.non ∈ kds Y := List.mem_append_left _ (List.mem_cons_of_mem _ (List.mem_cons_self ..))
  have ve1 : Kd.verr ∈ kds Y := List.mem_append_left _ (List.mem_cons_self ..)
  have ie2 : ∀ c, (Y.T.inst.contains c || Y.T.errs.contains c) = true → D.cls c ∈ kus Y := fun c h => by
    rcases Bool.or_eq_true_iff.mp h with h | h
    · exact cl2 c h
    · exact er2 c h
  have kk : ∀ k u b, Y.T.isa k u = some b → k ∈ kds Y ∧ u ∈ kus Y := fun k u b e => by
    unfold Tab.isa at e
    split at e
    · rename_i t
      exact ⟨no1, ty2 t⟩
    · rename_i a t
      exact ⟨ty1 a, ty2 t⟩
    · rename_i c t
      split at e
      · cases e
      · split at e
        · rename_i hc
          exact ⟨cl1 c hc, ty2 t⟩
        · cases e
    · rename_i c t
      split at e
      · rename_i hc
        exact ⟨er1 c hc, ty2 t⟩
      · cases e
    · rename_i t
      exact ⟨ve1, ty2 t⟩
    · rename_i c
      split at e
      · rename_i hc
        exact ⟨no1, ie2 c hc⟩
      · cases e
    · rename_i t c
      split at e
      · rename_i hc
        exact ⟨ty1 t, ie2 c hc⟩
      · cases e
    · rename_i c
      split at e
      · rename_i hc
        exact ⟨ve1, er2 c hc⟩
      · cases e
    · rename_i c c'
      split at e
      · rename_i hc
        obtain ⟨h1, h2⟩ := Bool.and_eq_true_iff.mp hc
        exact ⟨cl1 c h1, ie2 c' h2⟩
      · cases e
    · rename_i c c'
      split at e
      · rename_i hc
        obtain ⟨h1, h2⟩ := Bool.and_eq_true_iff.mp hc
        exact ⟨er1 c h1, er2 c' h2⟩
      · cases e
    · cases e
  refine ⟨fun c m f e => He.cls_ok (me c m f e).1.1, fun c m f e => ?_, fun c m f e => (me c m f e).1.2.2.1, fun c f e => (me c _ f e).1.2.2.2, of_decide_eq_true s7, of_decide_eq_true s8, of_decide_eq_true s9, of_decide_eq_true s10, fun c e => ?_, fldZ_inj s11, fun c f q e => ?_, fun c f e => ?_, fun c C f e e2 => ?_, fun c e => ?_, fun k u b e => ?_⟩
  · have := He.meth_ok (me c m f e).1.2.1
    rw [← (me c m f e).2] at this
    exact this
  · have q := List.all_eq_true.mp c6 c (List.contains_iff_mem.mp e)
    unfold iclB at q
    simp only [Bool.and_eq_true, decide_eq_true_eq] at q
    exact ⟨He.cls_ok q.1.1.1.1, q.1.1.1.2, q.1.1.2, q.1.2, q.2⟩
  · have z := all_lookup c7 e
    have q3 := of_decide_eq_true (all_lookup s5 e)
    unfold prpB at z
    simp only [Bool.and_eq_true, decide_eq_true_eq] at z
    refine ⟨prAt K (He.ga K (Y.cN c)) (Y.fl f), z.1.1.1, z.1.1.2, z.1.2, ?_⟩
    have z2 := z.2
    have ea : Y.fA K q = pAd K (.prp (Y.cN c) (Y.fl f)) := by
      unfold Sys.fA
      rw [show Y.pth.lookup q = some (.prp (Y.cN c) (Y.fl f)) from q3]
      rfl
    split at z2
    · rename_i a r hr
      refine ⟨r, ?_⟩
      have : pAd K (.prp (Y.cN c) (Y.fl f)) = a := by
        show (match PySem.W.recIn K (prAt K (He.ga K (Y.cN c)) (Y.fl f)) "property" with | some (.ref f :: _) => f | _ => 0) = a
        rw [hr]
      show _ = some (Value.ref (Y.fA K q) :: r)
      rw [ea, this]
      exact hr
    · cases z2
  · exact He.noat_ok (List.all_eq_true.mp c8 (c, f) (List.contains_iff_mem.mp e))
  · have q := all_lookup c9 e
    have q3 := all_lookup s6 e
    simp only [e2] at q q3
    have q4 := of_decide_eq_true q3
    have := He.mkr_ok q
    have ea : Y.fA K f = He.ma K (He.ga K (Y.cN c)) "__init__" := by
      unfold Sys.fA
      rw [show Y.pth.lookup f = some (.mth (Y.cN c) "__init__") from q4]
      rfl
    show Mk K (He.ga K (Y.cN c)) (Y.fA K f)
    rw [ea]
    exact this
  · have hne : Y.T.errs.isEmpty = false := by
      cases he : Y.T.errs with
      | nil => rw [he] at e; cases e
      | cons a l => rfl
    rw [hne, Bool.false_or] at c11 s13
    obtain ⟨v1, v2⟩ := Bool.and_eq_true_iff.mp s13
    unfold Sys.pok at hp
    rw [hne, Bool.false_or] at hp
    obtain ⟨p1, p2⟩ := Bool.and_eq_true_iff.mp hp
    exact errB_ok (W := Y.W P w K mg base) c11 (List.all_eq_true.mp c12 c (List.contains_iff_mem.mp e)) p1 (Bool.not_eq_true' _ ▸ p2 : (P.main.scope.names.lookup ("super" : PySem.Str)).isSome = false) (of_decide_eq_true v1) (He.free_ok X G (List.all_eq_true.mp c4 _ (List.contains_iff_mem.mp v2)))
  · obtain ⟨h1, h2⟩ := kk k u b e
    have q := List.all_eq_true.mp (List.all_eq_true.mp c10 k h1) u h2
    simp only [e] at q
    have q' := of_decide_eq_true q
    cases k <;> cases u <;> exact q'
theorem noops_of (hs : Y.sta = true) : NoOps Y.T := by
  unfold Sys.sta at hs
  simp only [Bool.and_eq_true] at hs
  have s12 := hs.1.2
  have key : ∀ c m, m = Y.T.nmAdd ∨ m = Y.T.nmSub ∨ m = Y.T.nmOr → Y.T.meth.lookup (c, m) = none := fun c m hm => by
    cases e : Y.T.meth.lookup (c, m) with
    | none => rfl
    | some f =>
      have q := all_lookup s12 e
      simp only [Bool.and_eq_true, bne_iff_ne, ne_eq] at q
      rcases hm with h | h | h
      · exact absurd h q.1.1
      · exact absurd h q.1.2
      · exact absurd h q.2
  exact fun c => ⟨key c _ (.inl rfl), key c _ (.inr (.inl rfl)), key c _ (.inr (.inr rfl))⟩
end
/-! the Hook -/
def refsZ (o : Obj) : List Addr := He.refsO o ++ (match o.dict with
  | some d => [d]
  | none => []) ++ match o.data with
  | .func fd => He.refV fd.kwdefaults ++ fd.closure.map (·.2)
  | _ => []
/-- addresses without those that are there -/
def addA (as : List Addr) : List Addr → List Addr
  | [] => as
  | a :: r => if as.contains a then addA as r else addA (a :: as) r
def growZ (g : Addr → Option Obj) (as : List Addr) : List Addr := addA as (as.flatMap fun a => if a == mainGlobals || a == cStatics then [] else match g a with
  | some o => refsZ o
  | none => [])
def asZ (g : Addr → Option Obj) (xs : List PySem.Str) : Nat → List Addr
  | 0 => addA [mainGlobals, cStatics] (xs.map (He.ga (He.frG g [mainGlobals])))
  | n + 1 => growZ g (asZ g xs n)
abbrev AlZ : Type := Bool × List FnW
def obsZ (Y : Sys) (K : PySem.W.Frag) : AlZ := (Y.chk K && Y.defs.all fun d => d.2.ok K, Y.defs.map fun d => fnWz K d.2.at_)
def valZ (Y : Sys) : AlZ := (true, Y.defs.map fun d => d.2.val)
def SaysZ (Y : Sys) (K : PySem.W.Frag) : Prop := obsZ Y K = valZ Y
def obsGZ (n : Nat) (Y : Sys) (xs : List PySem.Str) (g : Addr → Option Obj) : AlZ := obsZ Y (He.frG g (asZ g xs n))
def hookZ (n : Nat) (Y : Sys) (xs : List PySem.Str) : PySem.W.Hook where
  α := AlZ
  obs := fun s => obsGZ n Y xs s.heap.get?
  val := fun _ => valZ Y
  says := fun _ h => ∃ K : PySem.W.Frag, K.In h ∧ SaysZ Y K
  of := fun _ _ e => ⟨_, He.frG_in, e⟩
  keeps := fun _ _ _ ⟨K, hK, c⟩ k => ⟨K, PySem.W.Frag.In.keeps hK k, c⟩
theorem obsGZ_eq {n : Nat} {Y : Sys} {xs : List PySem.Str} {g : Addr → Option Obj} {s : Shared} (h : ∀ a, g a = s.heap.get? a) : obsGZ n Y xs g = (hookZ n Y xs).obs s := by
  have e : g = s.heap.get? := funext h
  rw [e] <;> rfl
theorem SaysZ.chk {Y : Sys} {K : PySem.W.Frag} (c : SaysZ Y K) : Y.chk K = true := (He.ba (show (Y.chk K && Y.defs.all fun d => d.2.ok K) = true from congrArg (fun z : AlZ => z.1) c)).1
theorem SaysZ.def_ {Y : Sys} {K : PySem.W.Frag} (c : SaysZ Y K) {f : Nat} {d : DfZ} (h : (f, d) ∈ Y.defs) : ∃ fd, FunD K d.name d.qual d.params d.body d.scope (d.dvs K) [] (pAd K d.at_) fd := by
  have c2 := (He.ba (show (Y.chk K && Y.defs.all fun d => d.2.ok K) = true from congrArg (fun z : AlZ => z.1) c)).2
  obtain ⟨i, hi⟩ := List.mem_iff_getElem?.mp h
  have e : Y.defs.map (fun d => fnWz K d.2.at_) = Y.defs.map (fun d => d.2.val) := congrArg (fun z : AlZ => z.2) c
  have e2 : (Y.defs.map fun d => fnWz K d.2.at_)[i]? = (Y.defs.map fun d => d.2.val)[i]? := by rw [e]
  rw [List.getElem?_map, List.getElem?_map, hi] at e2
  exact DfZ.funD (Option.some.inj e2) (He.ba (List.all_eq_true.mp c2 _ h)).2
theorem SaysZ.emp {Y : Sys} {K : PySem.W.Frag} (c : SaysZ Y K) {f : Nat} {d : DfZ} (h : (f, d) ∈ Y.defs) (he : d.emp = true) : emB K (emA d.at_ K) = true := by
  have c2 := (He.ba (show (Y.chk K && Y.defs.all fun d => d.2.ok K) = true from congrArg (fun z : AlZ => z.1) c)).2
  have q := (He.ba (List.all_eq_true.mp c2 _ h)).1
  rw [he] at q
  exact q
end Z
end

section
set_option Elab.async false
set_option linter.all false
set_option maxRecDepth 100000
set_option maxHeartbeats 4000000
/-! Z, part 36: from the head's facts to a good text. -/
namespace Z
open PySem PySem.W PySem.Spec PyProof.Rows L2 PySem.SeqAt
/-- a def binds what is written: all, or all but the last m -/
structure BdOk (d : DfZ) (ps : List PySem.Str) (F : FnDef) : Prop where
  ok : ∀ {K : PySem.W.Frag} {f : Addr} {fd : FuncData}, FunD K d.name d.qual d.params d.body d.scope (d.dvs K) [] f fd → (d.emp = true → emB K (emA d.at_ K) = true) → ∀ m, m ≤ F.ps → F.ps ≤ m + F.dfl.length →
    ∃ ds dv, Vals dv ds ∧ (∀ (W : Wd) g, W.K = K → RDs W g (F.dfl.drop (F.dfl.length - (F.ps - m))) dv) ∧ Binds K fd ps ds ∧ m + ds.length = F.ps
theorem bd_none {d : DfZ} {ps : List PySem.Str} {F : FnDef} (h1 : d.dfl = []) (h2 : F.dfl = []) (h3 : ps.length = F.ps)
    (h : ∀ (kV doc pm : Value) (an : Option Addr) (cdv ct : Value) (us : List Value), us.length = ps.length → bindArgs (PySem.W.fnOf d.name d.qual d.params d.body d.scope .none kV doc pm an cdv ct) ⟨us, []⟩ = pure (ps.zip us)) : BdOk d ps F := by
  refine ⟨fun {K f fd} FD _ m hm1 hm2 => ?_⟩
  rw [h2] at hm2 ⊢
  have e : d.dvs K = [] := by unfold DfZ.dvs; rw [h1]; rfl
  rw [e] at FD
  simp only [List.length_nil, Nat.add_zero] at hm2
  exact ⟨[], [], .nil, fun W g _ => by simp; rfl, FD.bindsN h, by simp; omega⟩
/-- the last parameter has one default -/
theorem bd_one {d : DfZ} {ps : List PySem.Str} {F : FnDef} {x : D} (hv : ∀ K : PySem.W.Frag, (d.emp = true → emB K (emA d.at_ K) = true) → ∃ v, d.dvs K = [v] ∧ ∀ (W : Wd) g, W.K = K → RD W g x v) (h2 : F.dfl = [x]) (h3 : ps.length = F.ps) (h0 : 0 < F.ps)
    (h : ∀ j, j ≤ 1 → ∀ (T : Addr) (kV doc pm : Value) (an : Option Addr) (cdv ct : Value) (us its : List Value), us.length + (1 - j) = ps.length → its.length = 1 →
      ∃ k, bindArgs (PySem.W.fnOf d.name d.qual d.params d.body d.scope (.ref T) kV doc pm an cdv ct) ⟨us, []⟩ = seqItems? (.ref T) >>= k ∧ k (some its.toArray) = pure (ps.zip (us ++ its.drop j))) : BdOk d ps F := by
  refine ⟨fun {K f fd} FD hem m hm1 hm2 => ?_⟩
  obtain ⟨v, e, rv0⟩ := hv K hem
  rw [h2] at hm2 ⊢
  rw [e] at FD
  simp only [List.length_cons, List.length_nil] at hm2 ⊢
  have key : ∀ j, j ≤ 1 → m + (1 - j) = ps.length → ∃ ds, Vals (([v] : List V).drop j) ds ∧ Binds K fd ps ds := fun j hj hm =>
    FD.binds1 m j (by simp) (by simpa using hm) fun T kV doc pm an cdv ct us its hu hi => h j hj T kV doc pm an cdv ct us its (by rw [hu]; exact hm) (by simpa using hi)
  by_cases hm : m = F.ps
  · obtain ⟨ds, rv, b⟩ := key 1 (Nat.le_refl _) (by omega)
    have := rv.length
    refine ⟨ds, [], rv, fun W g _ => ?_, b, by simp at this; omega⟩
    rw [hm, Nat.sub_self]
    rfl
  · obtain ⟨ds, rv, b⟩ := key 0 (by omega) (by omega)
    have := rv.length
    refine ⟨ds, [v], rv, fun W g hW => ?_, b, by simp at this; omega⟩
    rw [show F.ps - m = 1 by omega]
    exact RDs.cons (rv0 W g hW) RDs.nil
theorem bd_str {d : DfZ} {ps : List PySem.Str} {F : FnDef} {z : PySem.Str} (h1 : d.dfl = [.str z]) (h2 : F.dfl = [.str z]) (h3 : ps.length = F.ps) (h0 : 0 < F.ps)
    (h : ∀ j, j ≤ 1 → ∀ (T : Addr) (kV doc pm : Value) (an : Option Addr) (cdv ct : Value) (us its : List Value), us.length + (1 - j) = ps.length → its.length = 1 →
      ∃ k, bindArgs (PySem.W.fnOf d.name d.qual d.params d.body d.scope (.ref T) kV doc pm an cdv ct) ⟨us, []⟩ = seqItems? (.ref T) >>= k ∧ k (some its.toArray) = pure (ps.zip (us ++ its.drop j))) : BdOk d ps F :=
  bd_one (x := .str z) (fun K _ => ⟨.str z, by unfold DfZ.dvs; rw [h1]; rfl, fun W g _ => rfl⟩) h2 h3 h0 h
theorem emB_rd {K : PySem.W.Frag} {a : Addr} (h : emB K a = true) (W : Wd) (g : Gh) (e : W.K = K) : RD W g (.tup []) (.ref a) := by
  unfold emB at h
  split at h
  · rename_i t its n sl q
    obtain ⟨h1, h2⟩ := Bool.and_eq_true_iff.mp h
    have ht : t = "tuple" := beq_iff_eq.mp h1
    subst ht
    have hz : its.size = 0 := beq_iff_eq.mp h2
    have hi : its = #[] := Array.eq_empty_of_size_eq_zero hz
    subst hi
    exact ⟨a, [], rfl, .inr ⟨_, #[], n, by rw [e]; exact q, rfl, rfl, rfl, Nat.zero_le _, .nil⟩, rfl⟩
  · cases h
/-- the empty tuple as default -/
theorem bd_tup {d : DfZ} {ps : List PySem.Str} {F : FnDef} (h1 : d.dfl = [.adr (emA d.at_)]) (he : d.emp = true) (h2 : F.dfl = [.tup []]) (h3 : ps.length = F.ps) (h0 : 0 < F.ps)
    (h : ∀ j, j ≤ 1 → ∀ (T : Addr) (kV doc pm : Value) (an : Option Addr) (cdv ct : Value) (us its : List Value), us.length + (1 - j) = ps.length → its.length = 1 →
      ∃ k, bindArgs (PySem.W.fnOf d.name d.qual d.params d.body d.scope (.ref T) kV doc pm an cdv ct) ⟨us, []⟩ = seqItems? (.ref T) >>= k ∧ k (some its.toArray) = pure (ps.zip (us ++ its.drop j))) : BdOk d ps F :=
  bd_one (x := .tup []) (fun K hem => ⟨.ref (emA d.at_ K), by unfold DfZ.dvs; rw [h1]; rfl, fun W g e => emB_rd (hem he) W g e⟩) h2 h3 h0 h
structure StOk (Y : Sys) (f : Nat) (d : DfZ) (F : FnDef) (N ps : List PySem.Str) (mus : List (Nat × Nat)) : Prop where
  at_ : Y.pth.lookup f = some d.at_
  sc : FnScope N ps d.scope
  lp : ps.length = F.ps
  ln : N.length = F.n
  body : F.body = ssL (toS (Y.gm N mus) d.scope 40) d.body
  bd : BdOk d ps F
inductive AllSt (Y : Sys) : List (Nat × FnDef) → List (Nat × DfZ) → Prop
  | nil : AllSt Y [] []
  | cons {f : Nat} {d : DfZ} {F : FnDef} {N ps : List PySem.Str} {mus : List (Nat × Nat)} {fs : List (Nat × FnDef)} {ds : List (Nat × DfZ)} : StOk Y f d F N ps mus → AllSt Y fs ds → AllSt Y ((f, F) :: fs) ((f, d) :: ds)
theorem AllSt.get {Y : Sys} {f : Nat} {F : FnDef} : ∀ {fs : List (Nat × FnDef)} {ds : List (Nat × DfZ)}, AllSt Y fs ds → (f, F) ∈ fs → ∃ d N ps mus, (f, d) ∈ ds ∧ StOk Y f d F N ps mus
  | _, _, .nil, h => by cases h
  | _, _, .cons s t, h => by
    rcases List.mem_cons.mp h with e | h
    · cases e
      exact ⟨_, _, _, _, List.mem_cons_self .., s⟩
    · obtain ⟨d, N, ps, mus, h1, h2⟩ := t.get h
      exact ⟨d, N, ps, mus, List.mem_cons_of_mem _ h1, h2⟩
theorem good_of {Y : Sys} {P : Program} {w : World} {K : PySem.W.Frag} {mg : PySem.Str → Option Value} {h : Heap} {fa : Addr} {fl : Nat} (X : K.In h) (G : h.Ns mainGlobals mg) (c : SaysZ Y K) (hp : Y.pok P = true) (hs : Y.sta = true) (st : AllSt Y Y.T.fns Y.defs)
    (hl : Y.glN.lookup ("law" : PySem.Str) = some fl) (hfa : mg ("law" : PySem.Str) = some (.ref fa)) : Good P w K mg Y.T fl fa := by
  refine ⟨fun base => ⟨Y.W P w K mg base, rfl, rfl, rfl, rfl, rfl, ?_, wf_of X G hp hs c.chk, fun f F hF => ?_⟩⟩
  · have q := (gok_of (P := P) (w := w) (base := base) X G hs c.chk [] []).fn "law" fl hl
    have e := hfa.symm.trans q.1
    cases e
    rfl
  · obtain ⟨d, N, ps, mus, hdm, s⟩ := st.get (mem_lk hF)
    obtain ⟨fd, FD⟩ := c.def_ hdm
    have ea : Y.fA K f = pAd K d.at_ := by
      unfold Sys.fA
      rw [s.at_]
      rfl
    refine ⟨d.name, d.qual, d.params, d.body, d.scope, d.dvs K, fd, N, ps, Y.gm N mus, 40, ?_, s.sc, s.lp, s.ln, rfl, gok_of X G hs c.chk N mus, s.body, fun m h1 h2 => ?_⟩
    · show FunD K d.name d.qual d.params d.body d.scope (d.dvs K) [] (Y.fA K f) fd
      rw [ea]
      exact FD
    · obtain ⟨es, dv, r1, r2, r3, r4⟩ := s.bd.ok FD (fun he => c.emp ‹(f, d) ∈ Y.defs› he) m h1 h2
      exact ⟨es, dv, r1, fun g => r2 _ g rfl, r3, r4⟩
end Z
end

section
set_option Elab.async false
set_option linter.all false
set_option maxRecDepth 100000
/-! Z: the head's run, shown in parts. -/
namespace Z
open PySem PySem.W PySem.Calls PyProof.Rows
section
variable {σ : Type} {e : Option σ} {f : σ → PySem.W.Frag}
/-- what the head lays of some defs -/
def GrpZ (e : Option σ) (f : σ → PySem.W.Frag) (ds : List (Nat × DfZ)) : Prop := e.map (fun s => (ds.all fun d => d.2.ok (f s), ds.map fun d => fnWz (f s) d.2.at_)) = some (true, ds.map fun d => d.2.val)
theorem GrpZ.get {ds : List (Nat × DfZ)} (h : GrpZ e f ds) {s : σ} (he : e = some s) : (ds.all fun d => d.2.ok (f s)) = true ∧ (ds.map fun d => fnWz (f s) d.2.at_) = ds.map fun d => d.2.val := by
  unfold GrpZ at h
  rw [he] at h
  have h := Option.some.inj h
  exact ⟨congrArg (·.1) h, congrArg (·.2) h⟩
theorem GrpZ.app {a b : List (Nat × DfZ)} (ha : GrpZ e f a) (hb : GrpZ e f b) : GrpZ e f (a ++ b) := by
  cases he : e with
  | none =>
    unfold GrpZ at ha
    rw [he] at ha
    cases ha
  | some s =>
    obtain ⟨h1, h2⟩ := ha.get he
    obtain ⟨h3, h4⟩ := hb.get he
    unfold GrpZ
    show some ((a ++ b).all fun d => d.2.ok (f s), (a ++ b).map fun d => fnWz (f s) d.2.at_) = _
    rw [List.all_append, h1, h3, List.map_append, List.map_append, h2, h4]
    rfl
theorem run_join {α β : Type} {Y : Sys} {A : σ → α} {B : σ → β} {a : α} {b : β} (h0 : e.map (fun s => (A s, B s)) = some (a, b)) (h1 : e.map (fun s => Y.chk (f s)) = some true) (h2 : GrpZ e f Y.defs) :
    e.map (fun s => (A s, B s, obsZ Y (f s))) = some (a, b, valZ Y) := by
  cases he : e with
  | none =>
    rw [he] at h1
    cases h1
  | some s =>
    obtain ⟨h3, h4⟩ := h2.get he
    rw [he] at h0 h1
    have h0 := Option.some.inj h0
    have h1 : Y.chk (f s) = true := Option.some.inj h1
    have a1 : A s = a := congrArg (·.1) h0
    have b1 : B s = b := congrArg (·.2) h0
    show some (A s, B s, obsZ Y (f s)) = _
    rw [a1, b1]
    unfold obsZ valZ
    rw [h1, h3, h4]
    rfl
end
/-! the look by addresses that are written out: nothing is grown while the kernel runs -/
def obsL (as : List Addr) (Y : Sys) (g : Addr → Option Obj) : AlZ := obsZ Y (He.frG g as)
def hookL (as : List Addr) (Y : Sys) : PySem.W.Hook where
  α := AlZ
  obs := fun s => obsL as Y s.heap.get?
  val := fun _ => valZ Y
  says := fun _ h => ∃ K : PySem.W.Frag, K.In h ∧ SaysZ Y K
  of := fun _ _ e => ⟨_, He.frG_in, e⟩
  keeps := fun _ _ _ ⟨K, hK, c⟩ k => ⟨K, PySem.W.Frag.In.keeps hK k, c⟩
theorem obsL_eq {as : List Addr} {Y : Sys} {g : Addr → Option Obj} {s : Shared} (h : ∀ a, g a = s.heap.get? a) : obsL as Y g = (hookL as Y).obs s := by
  have e : g = s.heap.get? := funext h
  rw [e] <;> rfl
end Z
end

section
set_option Elab.async false
set_option linter.all false
set_option maxRecDepth 100000
set_option maxHeartbeats 0
/-! The tables of law k00, printed by gen.py: names by numbers, mirrors of the defs, what the head reads. -/
namespace K00
open PySem PySem.W PySem.Spec PyProof.Rows L2 Z
abbrev R : PySem.W.OpenRow := PySem.W.OpenLaw.row PySem.Challenge.rw_unseenwhole_k00_errors_and_what_they_kee
def top (i : Nat) : Stmt := PySem.Challenge.pw_unseenwhole_k00_errors_and_what_they_kee.main.body.getD i (.Pass ⟨0, 0, 0, 0⟩)
def inn (i j : Nat) : Stmt := match top i with
  | .ClassDef _ _ _ b _ _ _ _ _ _ _ => b.getD j (.Pass ⟨0, 0, 0, 0⟩)
  | s => s
/-! _law_made -/
def b273 : LSs :=
  (.cons (.asg (.nm 1) (.lst true (.cons (.new 7 (.cons (.var 0) .nil)) (.cons (.new 19 (.cons (.var 0) .nil)) (.cons (.new 4 (.cons (.var 0) .nil)) (.cons (.new 16 (.cons (.var 0) .nil)) (.cons (.new 15 (.cons (.var 0) .nil)) .nil))))))) (.cons (.exp (.mth (.var 1) (some .append) (some 13) (.cons (.new 10 (.cons (.var 0) .nil)) .nil))) (.cons (.exp (.mth (.var 1) (some .extend) (some 24) (.cons (.lst false (.cons (.new 0 (.cons (.var 0) .nil)) (.cons (.new 8 (.cons (.var 0) .nil)) (.cons (.new 9 (.cons (.var 0) .nil)) (.cons (.new 2 (.cons (.var 0) .nil)) .nil))))) .nil))) (.cons (.exp (.mth (.var 1) (some .extend) (some 24) (.cons (.lst false (.cons (.new 1 (.cons (.var 0) .nil)) (.cons (.new 17 (.cons (.var 0) .nil)) (.cons (.new 23 (.cons (.var 0) .nil)) (.cons (.new 28 (.cons (.var 0) .nil)) (.cons (.new 21 (.cons (.var 0) .nil)) .nil)))))) .nil))) (.cons (.exp (.mth (.var 1) (some .extend) (some 24) (.cons (.lst false (.cons (.new 34 (.cons (.var 0) .nil)) (.cons (.new 22 (.cons (.var 0) .nil)) (.cons (.new 27 (.cons (.var 0) .nil)) (.cons (.new 6 (.cons (.var 0) .nil)) (.cons (.new 11 (.cons (.var 0) .nil)) .nil)))))) .nil))) (.cons (.exp (.mth (.var 1) (some .extend) (some 24) (.cons (.lst false (.cons (.new 13 (.cons (.var 0) .nil)) (.cons (.new 36 (.cons (.var 0) .nil)) (.cons (.new 32 (.cons (.var 0) .nil)) (.cons (.new 24 (.cons (.var 0) .nil)) .nil))))) .nil))) (.cons (.ret (.bin .Add (.var 1) (.lst false (.cons (.new 26 (.cons (.var 0) .nil)) (.cons (.new 25 (.cons (.var 0) .nil)) (.cons (.new 20 (.cons (.var 0) .nil)) (.cons (.new 3 (.cons (.var 0) .nil)) (.cons (.new 5 (.cons (.var 0) .nil)) .nil)))))))) .nil)))))))
def f273 : FnDef := { ps := 1, n := 2, body := b273, dfl := [], tr := true }
def d273 : DfZ := { at_ := .glo "_law_made", name := "_law_made", qual := "_law_made", params := defArgs (top 32), body := defBody (top 32), scope := defScope (top 32), dfl := [] }
/-! _law_marked_by -/
def b275 : LSs :=
  (.cons (.asg (.nm 1) (.lst true (.cons (.bi .isinstance (.cons (.var 0) (.cons (.cst (.cls 7)) .nil))) (.cons (.bi .isinstance (.cons (.var 0) (.cons (.cst (.cls 19)) .nil))) (.cons (.bi .isinstance (.cons (.var 0) (.cons (.cst (.cls 4)) .nil))) .nil))))) (.cons (.exp (.mth (.var 1) (some .extend) (some 24) (.cons (.lst false (.cons (.bi .isinstance (.cons (.var 0) (.cons (.cst (.cls 16)) .nil))) (.cons (.bi .isinstance (.cons (.var 0) (.cons (.cst (.cls 15)) .nil))) (.cons (.bi .isinstance (.cons (.var 0) (.cons (.cst (.cls 10)) .nil))) .nil)))) .nil))) (.cons (.exp (.mth (.var 1) (some .extend) (some 24) (.cons (.lst false (.cons (.bi .isinstance (.cons (.var 0) (.cons (.cst (.cls 0)) .nil))) (.cons (.bi .isinstance (.cons (.var 0) (.cons (.cst (.cls 8)) .nil))) (.cons (.bi .isinstance (.cons (.var 0) (.cons (.cst (.cls 9)) .nil))) .nil)))) .nil))) (.cons (.exp (.mth (.var 1) (some .extend) (some 24) (.cons (.lst false (.cons (.bi .isinstance (.cons (.var 0) (.cons (.cst (.cls 2)) .nil))) (.cons (.bi .isinstance (.cons (.var 0) (.cons (.cst (.cls 1)) .nil))) (.cons (.bi .isinstance (.cons (.var 0) (.cons (.cst (.cls 17)) .nil))) .nil)))) .nil))) (.cons (.exp (.mth (.var 1) (some .extend) (some 24) (.cons (.lst false (.cons (.bi .isinstance (.cons (.var 0) (.cons (.cst (.cls 23)) .nil))) (.cons (.bi .isinstance (.cons (.var 0) (.cons (.cst (.cls 28)) .nil))) (.cons (.bi .isinstance (.cons (.var 0) (.cons (.cst (.cls 21)) .nil))) .nil)))) .nil))) (.cons (.exp (.mth (.var 1) (some .extend) (some 24) (.cons (.lst false (.cons (.bi .isinstance (.cons (.var 0) (.cons (.cst (.cls 34)) .nil))) (.cons (.bi .isinstance (.cons (.var 0) (.cons (.cst (.cls 22)) .nil))) (.cons (.bi .isinstance (.cons (.var 0) (.cons (.cst (.cls 27)) .nil))) .nil)))) .nil))) (.cons (.exp (.mth (.var 1) (some .extend) (some 24) (.cons (.lst false (.cons (.bi .isinstance (.cons (.var 0) (.cons (.cst (.cls 6)) .nil))) (.cons (.bi .isinstance (.cons (.var 0) (.cons (.cst (.cls 11)) .nil))) (.cons (.bi .isinstance (.cons (.var 0) (.cons (.cst (.cls 13)) .nil))) .nil)))) .nil))) (.cons (.exp (.mth (.var 1) (some .extend) (some 24) (.cons (.lst false (.cons (.bi .isinstance (.cons (.var 0) (.cons (.cst (.cls 36)) .nil))) (.cons (.bi .isinstance (.cons (.var 0) (.cons (.cst (.cls 32)) .nil))) (.cons (.bi .isinstance (.cons (.var 0) (.cons (.cst (.cls 24)) .nil))) .nil)))) .nil))) (.cons (.exp (.mth (.var 1) (some .extend) (some 24) (.cons (.lst false (.cons (.bi .isinstance (.cons (.var 0) (.cons (.cst (.cls 26)) .nil))) (.cons (.bi .isinstance (.cons (.var 0) (.cons (.cst (.cls 25)) .nil))) (.cons (.bi .isinstance (.cons (.var 0) (.cons (.cst (.cls 20)) .nil))) .nil)))) .nil))) (.cons (.exp (.mth (.var 1) (some .extend) (some 24) (.cons (.lst false (.cons (.bi .isinstance (.cons (.var 0) (.cons (.cst (.cls 3)) .nil))) (.cons (.bi .isinstance (.cons (.var 0) (.cons (.cst (.cls 5)) .nil))) .nil))) .nil))) (.cons (.ret (.var 1)) .nil)))))))))))
def f275 : FnDef := { ps := 1, n := 2, body := b275, dfl := [], tr := true }
def d275 : DfZ := { at_ := .glo "_law_marked_by", name := "_law_marked_by", qual := "_law_marked_by", params := defArgs (top 33), body := defBody (top 33), scope := defScope (top 33), dfl := [] }
/-! _law_is_kept -/
def b200 : LSs :=
  (.cons (.fors (.tp (.cons (.nm 1) (.cons (.nm 2) .nil))) (.enm (.call 273 (.cons (.var 0) .nil))) (.cons (.ifs (.or (.cmp .NotEq (.call 275 (.cons (.var 2) .nil)) (.lc false (.cmp .Eq (.var 5) (.var 1)) (.nm 5) (.rng (.cons (.cst (.int 29)) .nil)) .no [4, 5])) (.cmp .NotEq (.bi .repr (.cons (.atr (.var 2) 91) .nil)) (.bi .repr (.cons (.var 0) .nil)))) (.cons (.ret (.cst (.bl false))) .nil) .nil) (.cons (.ifs (.or (.not (.bi .isinstance (.cons (.var 2) (.cons (.cst (.cls 37)) .nil)))) (.not (.bi .isinstance (.cons (.var 2) (.cons (.cst (.ty .valueError)) .nil))))) (.cons (.ret (.cst (.bl false))) .nil) .nil) .nil))) (.cons (.asg (.nm 3) (.new 37 (.cons (.var 0) .nil))) (.cons (.ifs (.or (.cmp .NotEq (.bi .repr (.cons (.atr (.var 3) 91) .nil)) (.bi .repr (.cons (.var 0) .nil))) (.or (.cmp .In (.cst (.bl true)) (.call 275 (.cons (.var 3) .nil))) (.not (.bi .isinstance (.cons (.var 3) (.cons (.cst (.ty .valueError)) .nil)))))) (.cons (.ret (.cst (.bl false))) .nil) .nil) (.cons (.ret (.cmp .NotIn (.cst (.bl true)) (.call 275 (.cons (.bi .valueError (.cons (.var 0) .nil)) .nil)))) .nil))))
def f200 : FnDef := { ps := 1, n := 6, body := b200, dfl := [], tr := false }
def d200 : DfZ := { at_ := .glo "_law_is_kept", name := "_law_is_kept", qual := "_law_is_kept", params := defArgs (top 34), body := defBody (top 34), scope := defScope (top 34), dfl := [] }
/-! law -/
def b451 : LSs :=
  (.cons (.asg (.nm 1) (.bin .Mod (.bi .int (.cons (.ite (.cmp .NotEq (.var 0) (.lst false .nil)) (.idx (.var 0) (.cst (.int 0))) (.cst (.int 0))) .nil)) (.bin .Pow (.cst (.int 10)) (.cst (.int 9))))) (.cons (.asg (.nm 2) (.lst false (.cons (.cst .non) (.cons (.var 1) (.cons (.neg (.var 1)) (.cons (.cst (.bl true)) (.cons (.bin .Add (.cst (.str "text ")) (.bi .str (.cons (.var 1) .nil))) (.cons (.tup (.cons (.var 1) (.cons (.cst (.str "a")) .nil))) (.cons (.lst false (.cons (.var 1) .nil)) (.cons (.dct false (.cons (.cst (.str "a")) .nil) (.cons (.var 1) .nil)) (.cons (.tup .nil) (.cons (.tup (.cons (.tup (.cons (.var 1) (.cons (.cst .non) .nil))) (.cons (.lst false .nil) .nil))) .nil)))))))))))) (.cons (.ret (.bi .all (.cons (.lc false (.call 200 (.cons (.var 4) .nil)) (.nm 4) (.val (.var 2)) .no [3, 4]) .nil))) .nil)))
def f451 : FnDef := { ps := 1, n := 5, body := b451, dfl := [], tr := false }
def d451 : DfZ := { at_ := .glo "law", name := "law", qual := "law", params := defArgs (top 35), body := defBody (top 35), scope := defScope (top 35), dfl := [] }
def T : Tab := { fns := [(273, f273), (275, f275), (200, f200), (451, f451)], cls := [(37, { init := none, isExc := true }), (7, { init := none, isExc := true }), (19, { init := none, isExc := true }), (4, { init := none, isExc := true }), (16, { init := none, isExc := true }), (15, { init := none, isExc := true }), (10, { init := none, isExc := true }), (0, { init := none, isExc := true }), (8, { init := none, isExc := true }), (9, { init := none, isExc := true }), (2, { init := none, isExc := true }), (1, { init := none, isExc := true }), (17, { init := none, isExc := true }), (23, { init := none, isExc := true }), (28, { init := none, isExc := true }), (21, { init := none, isExc := true }), (34, { init := none, isExc := true }), (22, { init := none, isExc := true }), (27, { init := none, isExc := true }), (6, { init := none, isExc := true }), (11, { init := none, isExc := true }), (13, { init := none, isExc := true }), (36, { init := none, isExc := true }), (32, { init := none, isExc := true }), (24, { init := none, isExc := true }), (26, { init := none, isExc := true }), (25, { init := none, isExc := true }), (20, { init := none, isExc := true }), (3, { init := none, isExc := true }), (5, { init := none, isExc := true })], inst := [], meth := [], prop := [], flds := [(37, 91)], nmLen := 8, nmGet := 5, nmIn := 1, nmEq := 3, nmAdd := 0, nmSub := 10, nmOr := 9, subc := [(7, 37), (19, 37), (4, 37), (16, 37), (15, 37), (10, 37), (0, 37), (8, 37), (9, 37), (2, 37), (1, 37), (17, 37), (23, 37), (28, 37), (21, 37), (34, 37), (22, 37), (27, 37), (6, 37), (11, 37), (13, 37), (36, 37), (32, 37), (24, 37), (26, 37), (25, 37), (20, 37), (3, 37), (5, 37)], errs := [37, 7, 19, 4, 16, 15, 10, 0, 8, 9, 2, 1, 17, 23, 28, 21, 34, 22, 27, 6, 11, 13, 36, 32, 24, 26, 25, 20, 3, 5], nmVal := 91 }
def glN0 : List (PySem.Str × Nat) := [("_law_made", 273), ("_law_marked_by", 275), ("_law_is_kept", 200), ("law", 451)]
def glN : List (PySem.Str × Nat) := glN0
def clN0 : List (PySem.Str × Nat) := [("WholeError", 37), ("BadPlan", 7), ("NoList", 19), ("BadKey", 4), ("Full", 16), ("Few", 15), ("BadWhole", 10), ("BadColumns", 0), ("BadTelling", 8), ("BadTellings", 9), ("BadEntry", 2), ("BadEntries", 1), ("Held", 17), ("NotHeld", 23), ("OtherPlan", 28), ("NoWhole", 21), ("TooMany", 34), ("NotAlone", 22), ("OtherColumns", 27), ("BadOffers", 6), ("BadWishes", 11), ("Contrary", 13), ("Untold", 36), ("Several", 32), ("NotThere", 24), ("NothingToUndo", 26), ("NothingToRedo", 25), ("NoTrial", 20), ("BadJournal", 3), ("BadLine", 5)]
def clN : List (PySem.Str × Nat) := clN0
def atN0 : List (PySem.Str × Nat) := [("__add__", 0), ("__contains__", 1), ("__eq__", 3), ("__getitem__", 5), ("__len__", 8), ("__or__", 9), ("__sub__", 10), ("append", 13), ("extend", 24), ("value", 91)]
def atN : List (PySem.Str × Nat) := atN0
def cst0 : List (PySem.Str × D) := []
def cst : List (PySem.Str × D) := cst0
def blt0 : List PySem.Str := ["all", "repr", "int", "isinstance", "str", "range", "enumerate", "ValueError", "super"]
def blt : List PySem.Str := blt0
def pth0 : List (Nat × Pth) := [(273, .glo "_law_made"), (275, .glo "_law_marked_by"), (200, .glo "_law_is_kept"), (451, .glo "law")]
def pth : List (Nat × Pth) := pth0
def dfs0 : List (Nat × DfZ) := [(273, d273), (275, d275), (200, d200), (451, d451)]
def dfs : List (Nat × DfZ) := dfs0
def Y : Sys := { T := T, glN := glN, clN := clN, atN := atN, cst := cst, blt := blt, pth := pth, cls := [(37, "WholeError"), (7, "BadPlan"), (19, "NoList"), (4, "BadKey"), (16, "Full"), (15, "Few"), (10, "BadWhole"), (0, "BadColumns"), (8, "BadTelling"), (9, "BadTellings"), (2, "BadEntry"), (1, "BadEntries"), (17, "Held"), (23, "NotHeld"), (28, "OtherPlan"), (21, "NoWhole"), (34, "TooMany"), (22, "NotAlone"), (27, "OtherColumns"), (6, "BadOffers"), (11, "BadWishes"), (13, "Contrary"), (36, "Untold"), (32, "Several"), (24, "NotThere"), (26, "NothingToUndo"), (25, "NothingToRedo"), (20, "NoTrial"), (3, "BadJournal"), (5, "BadLine")], defs := dfs, errD := "WholeError", file := R.prog.main.file }
theorem s273 : StOk Y 273 d273 f273 ["_law_value", "_law_found"] ["_law_value"] [(67, 17)] := ⟨by kernel_rfl, ⟨rfl, rfl, rfl, by decide +kernel, rfl, by decide +kernel, by decide +kernel⟩, rfl, rfl, by kernel_rfl, bd_none rfl rfl rfl (fun kV doc pm an cdv ct us hl => match us, hl with | [_], _ => rfl)⟩
theorem s275 : StOk Y 275 d275 f275 ["_law_error", "_law_found"] ["_law_error"] [(75, 17)] := ⟨by kernel_rfl, ⟨rfl, rfl, rfl, by decide +kernel, rfl, by decide +kernel, by decide +kernel⟩, rfl, rfl, by kernel_rfl, bd_none rfl rfl rfl (fun kV doc pm an cdv ct us hl => match us, hl with | [_], _ => rfl)⟩
theorem s200 : StOk Y 200 d200 f200 ["_law_value", "_law_number", "_law_error", "_law_base", ".0", "_law_at"] ["_law_value"] [] := ⟨by kernel_rfl, ⟨rfl, rfl, rfl, by decide +kernel, rfl, by decide +kernel, by decide +kernel⟩, rfl, rfl, by kernel_rfl, bd_none rfl rfl rfl (fun kV doc pm an cdv ct us hl => match us, hl with | [_], _ => rfl)⟩
theorem s451 : StOk Y 451 d451 f451 ["_law_script", "_law_cell", "_law_some", ".0", "_law_value"] ["_law_script"] [] := ⟨by kernel_rfl, ⟨rfl, rfl, rfl, by decide +kernel, rfl, by decide +kernel, by decide +kernel⟩, rfl, rfl, by kernel_rfl, bd_none rfl rfl rfl (fun kV doc pm an cdv ct us hl => match us, hl with | [_], _ => rfl)⟩
theorem st : AllSt Y Y.T.fns Y.defs := .cons s273 (.cons s275 (.cons s200 (.cons s451 .nil)))
theorem sta : Y.sta = true := by kernel_rfl
end K00
end

section
set_option Elab.async false
set_option linter.all false
set_option maxRecDepth 100000
set_option maxHeartbeats 0
namespace K00
open PySem PySem.W PySem.Spec PyProof.Rows L2 Z
def loose0 : List PySem.Str := [(PySem.Str.ofString "WholeError"), (PySem.Str.ofString "BadPlan"), (PySem.Str.ofString "NoList"), (PySem.Str.ofString "BadKey"), (PySem.Str.ofString "Full"), (PySem.Str.ofString "Few"), (PySem.Str.ofString "BadWhole"), (PySem.Str.ofString "BadColumns"), (PySem.Str.ofString "BadTelling"), (PySem.Str.ofString "BadTellings"), (PySem.Str.ofString "BadEntry"), (PySem.Str.ofString "BadEntries"), (PySem.Str.ofString "Held"), (PySem.Str.ofString "NotHeld"), (PySem.Str.ofString "OtherPlan"), (PySem.Str.ofString "NoWhole"), (PySem.Str.ofString "TooMany"), (PySem.Str.ofString "NotAlone"), (PySem.Str.ofString "OtherColumns"), (PySem.Str.ofString "BadOffers"), (PySem.Str.ofString "BadWishes"), (PySem.Str.ofString "Contrary"), (PySem.Str.ofString "Untold"), (PySem.Str.ofString "Several"), (PySem.Str.ofString "NotThere"), (PySem.Str.ofString "NothingToUndo"), (PySem.Str.ofString "NothingToRedo"), (PySem.Str.ofString "NoTrial"), (PySem.Str.ofString "BadJournal"), (PySem.Str.ofString "BadLine"), (PySem.Str.ofString "_law_made"), (PySem.Str.ofString "_law_marked_by"), (PySem.Str.ofString "_law_is_kept")]
def loose : List PySem.Str := loose0
def xs0 : List PySem.Str := ["_law_made", "_law_marked_by", "_law_is_kept", "law", "WholeError", "BadPlan", "NoList", "BadKey", "Full", "Few", "BadWhole", "BadColumns", "BadTelling", "BadTellings", "BadEntry", "BadEntries", "Held", "NotHeld", "OtherPlan", "NoWhole", "TooMany", "NotAlone", "OtherColumns", "BadOffers", "BadWishes", "Contrary", "Untold", "Several", "NotThere", "NothingToUndo"]
def xs1 : List PySem.Str := ["NothingToRedo", "NoTrial", "BadJournal", "BadLine"]
def xs : List PySem.Str := xs0 ++ xs1
abbrev hk : PySem.W.Hook := hookZ 4 Y xs
def ob (s : PySem.W.SharedT) : AlZ := obsGZ 4 Y xs (HandSHeadRun.getT s)
theorem ob_eq (s : PySem.W.SharedT) : ob s = hk.obs s.abs := obsGZ_eq (HandSHeadRun.getT_eq s)
noncomputable def eS (w : World) (os : OsState) : Option SharedT := HandSHeadRun.endF (HandSHeadRun.stepQ (HandSHeadRun.denQ HandSHeadRun.tabQ) R.prog w) 12000 R.prog w os
noncomputable def fS (s : SharedT) : PySem.W.Frag := He.frG (HandSHeadRun.getT s) (asZ (HandSHeadRun.getT s) xs 4)
theorem r0 (w : World) (os : OsState) : (eS w os).map (fun s => (HandSHeadRun.looksF R.prog (boot_heap w.params) s.abs, HandSHeadRun.seenQ (PySem.W.view R.prog [35]) loose (importedModules R.prog.main.body) (fun s => xlAt (PySem.W.view R.prog [35]) [] s && recOk R.toRowW.records s) s.abs)) = some (true, openGood (PySem.W.view R.prog [35]) loose) := by kernel_rfl
theorem r1 (w : World) (os : OsState) : (eS w os).map (fun s => Y.chk (fS s)) = some true := by kernel_rfl
theorem g0 (w : World) (os : OsState) : Z.GrpZ (eS w os) fS dfs0 := by
  unfold Z.GrpZ
  kernel_rfl
theorem run (w : World) : HandSHeadRun.RunEq R (PySem.W.view R.prog [35]) hk ob 12000 loose w := fun os => Z.run_join (Y := Y) (r0 w os) (r1 w os) (g0 w os)
end K00
end

section
set_option Elab.async false
set_option linter.all false
set_option maxRecDepth 100000
set_option maxHeartbeats 0
open PySem PySem.W PySem.Calls PyProof.Rows
theorem K00.holds (hlaw : ∀ ns : List Int, ns.length ≤ 63 → ∃ S', Z.Phi K00.T 1000000 40 451 [.scr (ns.map .int)] [] = .ok (.bl true) S') : PySem.Challenge.rw_unseenwhole_k00_errors_and_what_they_kee.Holds := by
  w_on; o_law
  refine HandSHeadRun.head_any (r := OpenLaw.row PySem.Challenge.rw_unseenwhole_k00_errors_and_what_they_kee) (q := view (OpenLaw.row PySem.Challenge.rw_unseenwhole_k00_errors_and_what_they_kee).prog [35]) (H := K00.hk) (ob := K00.ob) (M := 12000) (loose := K00.loose) (d := HandSHeadRun.topDef (OpenLaw.row PySem.Challenge.rw_unseenwhole_k00_errors_and_what_they_kee).prog 35) (kwd := []) K00.ob_eq
    (by kernel_rfl) (fun s => by kernel_rfl) K00.run (by kernel_rfl) (by kernel_rfl) (by kernel_rfl) (by rfl) (by first | assumption | decide +kernel) (by decide +kernel) ⟨rfl, rfl, rfl, rfl, rfl, by decide +kernel⟩ ?hw ?hc
  case hw => w_witness2
  case hc =>
    refine Z.walk_ofZ (l := PySem.Challenge.rw_unseenwhole_k00_errors_and_what_they_kee) (m := 63) (n := 40) (T := K00.T) (fl := 451) rfl (by decide) (by kernel_rfl) ⟨by decide, by decide, by decide⟩ (Z.noops_of K00.sta) ?F hlaw
    intro w mg fa h Y G hmg0
    obtain ⟨K, KX, c⟩ := Y
    have hmg : mg ("law" : PySem.Str) = some (.ref fa) := by
      have e : (HandSHeadRun.topDef (OpenLaw.row PySem.Challenge.rw_unseenwhole_k00_errors_and_what_they_kee).prog 35).name = ("law" : PySem.Str) := by kernel_rfl
      rw [← e]
      exact hmg0
    exact ⟨K, KX, Z.good_of KX G c (by kernel_rfl) K00.sta K00.st (by kernel_rfl) hmg⟩
end

section
set_option Elab.async false
set_option linter.all false
set_option maxRecDepth 100000
set_option maxHeartbeats 1000000
/-! Z, plain: the evaluator as a row of rules that simp runs lazily. -/
namespace Z.M
open PySem PySem.W

def gv (S : List O) (o : Option (Option D)) : R D := match o with
  | some (some d) => .ok d S
  | _ => .bad
@[simp] theorem gv_some (S : List O) (d : D) : gv S (some (some d)) = .ok d S := rfl
def ptR (o : Option St) (S : List O) : R Fl := match o with
  | some σ => .ok (.nx σ) S
  | none => .bad
@[simp] theorem ptR_some (σ : St) (S : List O) : ptR (some σ) S = .ok (.nx σ) S := rfl
def _root_.Z.R.next (x : R Fl) (f : St → List O → R Fl) : R Fl := match x with
  | .ok (.nx σ) S => f σ S
  | r => r
@[simp] theorem next_nx (σ : St) (S : List O) (f : St → List O → R Fl) : R.next (.ok (.nx σ) S) f = f σ S := rfl
@[simp] theorem next_rt (d : D) (S : List O) (f : St → List O → R Fl) : R.next (.ok (.rt d) S) f = .ok (.rt d) S := rfl
section
variable (T : Tab) (Φ : Fn) (W : Nat)
/-! what comes behind a value, by names, so that simp looks at it only when the value is there -/
open Classical in
noncomputable def lcG (e : LE) (t : LT) (ifs : LO) (own : List Nat) (σ : St) (d : D) (S : List O) : R (List D) := match t.put d (wipe σ own) with
  | none => .bad
  | some σ' => (evT T Φ ifs σ' S).bind fun b S => if b then (ev T Φ e σ' S).bind fun x S => .ok [x] S else .ok [] S
open Classical in
noncomputable def lcR (mu : Bool) (e : LE) (t : LT) (ifs : LO) (own : List Nat) (σ : St) (r : List D × List Nat) (S : List O) : R D :=
  match map1 (lcG T Φ e t ifs own σ) (Keeps S r.2) r.1 S with
    | .ok xs S => if xs.length ≤ lim then if mu then .ok (.ref S.length) (S ++ [.lst xs]) else .ok (.lst xs) S else .bad
    | _ => .bad
noncomputable def dcG (k v : LE) (t : LT) (ifs : LO) (own : List Nat) (σ : St) (d : D) (S : List O) : R (List (D × D)) := match t.put d (wipe σ own) with
  | none => .bad
  | some σ' => (evT T Φ ifs σ' S).bind fun b S => if b then (ev T Φ k σ' S).bind fun x S => (ev T Φ v σ' S).bind fun y S => .ok [(x, y)] S else .ok [] S
open Classical in
noncomputable def dcR (mu : Bool) (k v : LE) (t : LT) (ifs : LO) (own : List Nat) (σ : St) (r : List D × List Nat) (S : List O) : R D :=
  match mapP (dcG T Φ k v t ifs own σ) (Keeps S r.2) r.1 S [] [] with
    | .ok p S => if mu then .ok (.ref S.length) (S ++ [.dct p.1 p.2]) else .ok (.dct p.1 p.2) S
    | _ => .bad
open Classical in
noncomputable def forR (t : LT) (b : LSs) (S0 : List O) (ns : List Nat) (ds : List D) (σ : St) (S : List O) : R Fl := loopF t (fun σ S => exs T Φ W b σ S) (Keeps S0 ns) ds σ S
noncomputable def whC (c : LE) (σ : St) (S : List O) : R Bool := (ev T Φ c σ S).bind fun x S => match truth S x with
  | some k => .ok k S
  | none => .bad
noncomputable def whR (c : LE) (b : LSs) (n : Nat) (σ : St) (S : List O) : R Fl := loopW (whC T Φ c) (fun σ S => exs T Φ W b σ S) n σ S
def asaR (f : Nat) (x y : D) (σ : St) (S : List O) : R Fl := match y with
  | .ref n => match S[n]? with
    | some (.ins c fs vs) => if fs.length < 900 ∧ T.inst.contains c = true ∧ T.flds.contains (c, f) = true then .ok (.nx σ) (S.set n (.ins c (putf fs vs f x).1 (putf fs vs f x).2)) else .bad
    | _ => .bad
  | _ => .bad
def asiR (x y k : D) (σ : St) (S : List O) : R Fl := match y with
  | .ref n => match S[n]?, k with
    | some (.lst ds), .int i => match L2.ixN ds.length i with
      | some j => .ok (.nx σ) (S.set n (.lst (ds.set j x)))
      | none => .bad
    | some (.dct ks vs), k => if (okKey ks k = true ∨ okT ks k = true) ∧ ks.length < lim then .ok (.nx σ) (S.set n (.dct (dput ks vs k x).1 (dput ks vs k x).2)) else .bad
    | _, _ => .bad
  | _ => .bad
def augR (i : Nat) (op : Operator) (a : Int) (y : D) (σ : St) (S : List O) : R Fl := match op, y with
  | .Add, .int b => .ok (.nx (σ.set i (some (.int (a + b))))) S
  | .Sub, .int b => .ok (.nx (σ.set i (some (.int (a - b))))) S
  | _, _ => .bad
@[simp] theorem augR_add (i : Nat) (a b : Int) (σ : St) (S : List O) : augR i .Add a (.int b) σ S = .ok (.nx (σ.set i (some (.int (a + b))))) S := rfl
def intO (x : D) (S : List O) : R (Option Int) := match x with
  | .int i => .ok (some i) S
  | _ => .bad
@[simp] theorem intO_int (i : Int) (S : List O) : intO (.int i) S = .ok (some i) S := rfl
def wkR (ns : List Nat) (o : Option (List D)) (S : List O) : R (List D × List Nat) := match o with
  | some ds => .ok (ds, ns) S
  | none => .bad
@[simp] theorem wkR_some (ds : List D) (ns : List Nat) (S : List O) : wkR ns (some ds) S = .ok (ds, ns) S := rfl

noncomputable def andR (b : LE) (σ : St) (x : D) (k : Option Bool) (S : List O) : R D := match k with
  | some true => ev T Φ b σ S
  | some false => .ok x S
  | none => .bad
noncomputable def orR (b : LE) (σ : St) (x : D) (k : Option Bool) (S : List O) : R D := match k with
  | some true => .ok x S
  | some false => ev T Φ b σ S
  | none => .bad
def notR (k : Option Bool) (S : List O) : R D := match k with
  | some k => .ok (.bl (!k)) S
  | none => .bad
@[simp] theorem notR_some (k : Bool) (S : List O) : notR (some k) S = .ok (.bl (!k)) S := rfl
def boolO (k : Option Bool) (S : List O) : R Bool := match k with
  | some k => .ok k S
  | none => .bad
@[simp] theorem boolO_some (k : Bool) (S : List O) : boolO (some k) S = .ok k S := rfl
noncomputable def iteR (a b : LE) (σ : St) (k : Option Bool) (S : List O) : R D := match k with
  | some true => ev T Φ a σ S
  | some false => ev T Φ b σ S
  | none => .bad
noncomputable def ifsR (a b : LSs) (σ : St) (k : Option Bool) (S : List O) : R Fl := match k with
  | some true => exs T Φ W a σ S
  | some false => exs T Φ W b σ S
  | none => .bad
noncomputable def kChn4 (o2 : CmpOp) (y : D) (z : D) (S : List O) : R D := cmpD T Φ o2 y z S
noncomputable def kChn3 (o2 : CmpOp) (y : D) (c : LE) (σ : St) (r : D) (S : List O) : R D := match r with
  | .bl true => (ev T Φ c σ S).bind (kChn4 T Φ o2 y)
  | .bl false => .ok (.bl false) S
  | _ => .bad
noncomputable def mthR (es : LEs) (σ : St) (x : D) (k : Option MK) (S : List O) : R D := match k with
  | some k => (evs T Φ es σ S).bind (fun ds S => mthK Φ k x ds S)
  | none => .bad
noncomputable def kBin2 (op : Operator) (x : D) (y : D) (S : List O) : R D := binD T Φ op x y S
noncomputable def kCmp2 (op : CmpOp) (x : D) (y : D) (S : List O) : R D := cmpD T Φ op x y S
noncomputable def kChn2 (o1 o2 : CmpOp) (x : D) (c : LE) (σ : St) (y : D) (S : List O) : R D := (cmpD T Φ o1 x y S).bind (kChn3 T Φ o2 y c σ)
noncomputable def kIdx2 (x : D) (y : D) (S : List O) : R D := idxD T Φ x y S
noncomputable def kSlc3 (x : D) (l : Option Int) (h : Option Int) (S : List O) : R D := slcD x l h S
noncomputable def kSlc2 (x : D) (hi : LO) (σ : St) (l : Option Int) (S : List O) : R D := (evO T Φ hi σ S).bind (kSlc3 x l)
noncomputable def kDct2 (mu : Bool) (kd : List D) (vd : List D) (S : List O) : R D := if kd.all keyS ∧ kd.length = vd.length then if mu then .ok (.ref S.length) (S ++ [.dct (dputs [] [] kd vd).1 (dputs [] [] kd vd).2]) else .ok (.dct (dputs [] [] kd vd).1 (dputs [] [] kd vd).2) S else .bad
noncomputable def kEvs2 (x : D) (xs : List D) (S : List O) : R (List D) := .ok (x :: xs) S
noncomputable def kAsa2 (f : Nat) (x : D) (σ : St) (y : D) (S : List O) : R Fl := asaR T f x y σ S
noncomputable def kAsi3 (x y : D) (σ : St) (k : D) (S : List O) : R Fl := asiR x y k σ S
noncomputable def kAsi2 (i : LE) (x : D) (σ : St) (y : D) (S : List O) : R Fl := (ev T Φ i σ S).bs σ (kAsi3 x y σ)
noncomputable def kBin (op : Operator) (b : LE) (σ : St) (x : D) (S : List O) : R D := (ev T Φ b σ S).bind (kBin2 T Φ op x)
noncomputable def kCmp (op : CmpOp) (b : LE) (σ : St) (x : D) (S : List O) : R D := (ev T Φ b σ S).bind (kCmp2 T Φ op x)
noncomputable def kChn (o1 o2 : CmpOp) (b c : LE) (σ : St) (x : D) (S : List O) : R D := (ev T Φ b σ S).bind (kChn2 T Φ o1 o2 x c σ)
noncomputable def kAnd (b : LE) (σ : St) (x : D) (S : List O) : R D := andR T Φ b σ x (truth S x) S
noncomputable def kOr (b : LE) (σ : St) (x : D) (S : List O) : R D := orR T Φ b σ x (truth S x) S
noncomputable def kNot  (x : D) (S : List O) : R D := notR (truth S x) S
noncomputable def kIte (a b : LE) (σ : St) (x : D) (S : List O) : R D := iteR T Φ a b σ (truth S x) S
noncomputable def kCall (f : Nat) (ds : List D) (S : List O) : R D := Φ f ds S
noncomputable def kNew (c : Nat) (ds : List D) (S : List O) : R D := newD T Φ c ds S
noncomputable def kBi (f : Bi) (ds : List D) (S : List O) : R D := biD T Φ f ds S
noncomputable def kBii (f : Bi) (r : List D × List Nat) (S : List O) : R D := biiD f r.1 S
noncomputable def kMth (b : Option Bm) (m : Option Nat) (es : LEs) (σ : St) (x : D) (S : List O) : R D := mthR T Φ es σ x (mtyp T x b m S) S
noncomputable def kMth2 (k : MK) (x : D) (ds : List D) (S : List O) : R D := mthK Φ k x ds S
noncomputable def kAtr (f : Nat) (x : D) (S : List O) : R D := atrD T Φ x f S
noncomputable def kIdx (i : LE) (σ : St) (x : D) (S : List O) : R D := (ev T Φ i σ S).bind (kIdx2 T Φ x)
noncomputable def kSlc (lo hi : LO) (σ : St) (x : D) (S : List O) : R D := (evO T Φ lo σ S).bind (kSlc2 T Φ x hi σ)
noncomputable def kTup  (ds : List D) (S : List O) : R D := if ds.length ≤ lim then .ok (.tup ds) S else .bad
noncomputable def kLst (mu : Bool) (ds : List D) (S : List O) : R D := if ds.length ≤ lim then if mu then .ok (.ref S.length) (S ++ [.lst ds]) else .ok (.lst ds) S else .bad
noncomputable def kDct (mu : Bool) (vs : LEs) (σ : St) (kd : List D) (S : List O) : R D := (evs T Φ vs σ S).bind (kDct2 mu kd)
noncomputable def kEvs (es : LEs) (σ : St) (x : D) (S : List O) : R (List D) := (evs T Φ es σ S).bind (kEvs2 x)
noncomputable def kEvT  (x : D) (S : List O) : R Bool := boolO (truth S x) S
noncomputable def kVal  (x : D) (S : List O) : R (List D × List Nat) := wkR x.refs (walk? S x) S
noncomputable def kRng  (ds : List D) (S : List O) : R (List D × List Nat) := wkR [] (rngD ds) S
noncomputable def kZip  (ds : List D) (S : List O) : R (List D × List Nat) := wkR (ds.flatMap D.refs) (zipD S ds) S
noncomputable def kEnm  (x : D) (S : List O) : R (List D × List Nat) := wkR x.refs ((items? S x).map (enmL 0)) S
noncomputable def kRet  (x : D) (S : List O) : R Fl := .ok (.rt x) S
noncomputable def kExp (σ : St) (x : D) (S : List O) : R Fl := .ok (.nx σ) S
noncomputable def kAsg (t : LT) (σ : St) (x : D) (S : List O) : R Fl := ptR (t.put x σ) S
noncomputable def kAsa (o : LE) (f : Nat) (σ : St) (x : D) (S : List O) : R Fl := (ev T Φ o σ S).bs σ (kAsa2 T f x σ)
noncomputable def kAsi (o i : LE) (σ : St) (x : D) (S : List O) : R Fl := (ev T Φ o σ S).bs σ (kAsi2 T Φ i x σ)
noncomputable def kIfs (a b : LSs) (σ : St) (x : D) (S : List O) : R Fl := ifsR T Φ W a b σ (truth S x) S
noncomputable def kFor (t : LT) (b : LSs) (σ : St) (r : List D × List Nat) (S : List O) : R Fl := forR T Φ W t b S r.2 r.1 σ S
noncomputable def kAug (i : Nat) (op : Operator) (a : Int) (σ : St) (y : D) (S : List O) : R Fl := augR i op a y σ S
noncomputable def kLc (mu : Bool) (e : LE) (t : LT) (ifs : LO) (own : List Nat) (σ : St) (r : List D × List Nat) (S : List O) : R D := lcR T Φ mu e t ifs own σ r S
noncomputable def kDc (mu : Bool) (k v : LE) (t : LT) (ifs : LO) (own : List Nat) (σ : St) (r : List D × List Nat) (S : List O) : R D := dcR T Φ mu k v t ifs own σ r S

noncomputable def chnR (o2 : CmpOp) (y : D) (c : LE) (σ : St) (k : Bool) (S : List O) : R D := match k with
  | true => (ev T Φ c σ S).bind (kChn4 T Φ o2 y)
  | false => .ok (.bl false) S
noncomputable def kExs (ss : LSs) (σ : St) (S : List O) : R Fl := exs T Φ W ss σ S
def putsO (o : Option St) (ts : LTs) (ds : List D) : Option St := match o with
  | some σ => ts.puts ds σ
  | none => none
variable {T Φ W} {σ : St} {S : List O}
@[simp] theorem kBin2_ap (op : Operator) (x : D) (y : D) (S : List O) : kBin2 T Φ op x y S = binD T Φ op x y S := rfl
@[simp] theorem kCmp2_ap (op : CmpOp) (x : D) (y : D) (S : List O) : kCmp2 T Φ op x y S = cmpD T Φ op x y S := rfl
@[simp] theorem kChn2_ap (o1 o2 : CmpOp) (x : D) (c : LE) (σ : St) (y : D) (S : List O) : kChn2 T Φ o1 o2 x c σ y S = (cmpD T Φ o1 x y S).bind (kChn3 T Φ o2 y c σ) := rfl
@[simp] theorem kIdx2_ap (x : D) (y : D) (S : List O) : kIdx2 T Φ x y S = idxD T Φ x y S := rfl
@[simp] theorem kSlc3_ap (x : D) (l : Option Int) (h : Option Int) (S : List O) : kSlc3  x l h S = slcD x l h S := rfl
@[simp] theorem kSlc2_ap (x : D) (hi : LO) (σ : St) (l : Option Int) (S : List O) : kSlc2 T Φ x hi σ l S = (evO T Φ hi σ S).bind (kSlc3 x l) := rfl
@[simp] theorem kDct2_ap (mu : Bool) (kd : List D) (vd : List D) (S : List O) : kDct2  mu kd vd S = if kd.all keyS ∧ kd.length = vd.length then if mu then .ok (.ref S.length) (S ++ [.dct (dputs [] [] kd vd).1 (dputs [] [] kd vd).2]) else .ok (.dct (dputs [] [] kd vd).1 (dputs [] [] kd vd).2) S else .bad := rfl
@[simp] theorem kEvs2_ap (x : D) (xs : List D) (S : List O) : kEvs2  x xs S = .ok (x :: xs) S := rfl
@[simp] theorem kAsa2_ap (f : Nat) (x : D) (σ : St) (y : D) (S : List O) : kAsa2 T f x σ y S = asaR T f x y σ S := rfl
@[simp] theorem kAsi3_ap (x y : D) (σ : St) (k : D) (S : List O) : kAsi3  x y σ k S = asiR x y k σ S := rfl
@[simp] theorem kAsi2_ap (i : LE) (x : D) (σ : St) (y : D) (S : List O) : kAsi2 T Φ i x σ y S = (ev T Φ i σ S).bs σ (kAsi3 x y σ) := rfl
@[simp] theorem kBin_ap (op : Operator) (b : LE) (σ : St) (x : D) (S : List O) : kBin T Φ op b σ x S = (ev T Φ b σ S).bind (kBin2 T Φ op x) := rfl
@[simp] theorem kCmp_ap (op : CmpOp) (b : LE) (σ : St) (x : D) (S : List O) : kCmp T Φ op b σ x S = (ev T Φ b σ S).bind (kCmp2 T Φ op x) := rfl
@[simp] theorem kChn_ap (o1 o2 : CmpOp) (b c : LE) (σ : St) (x : D) (S : List O) : kChn T Φ o1 o2 b c σ x S = (ev T Φ b σ S).bind (kChn2 T Φ o1 o2 x c σ) := rfl
@[simp] theorem kAnd_ap (b : LE) (σ : St) (x : D) (S : List O) : kAnd T Φ b σ x S = andR T Φ b σ x (truth S x) S := rfl
@[simp] theorem kOr_ap (b : LE) (σ : St) (x : D) (S : List O) : kOr T Φ b σ x S = orR T Φ b σ x (truth S x) S := rfl
@[simp] theorem kNot_ap  (x : D) (S : List O) : kNot   x S = notR (truth S x) S := rfl
@[simp] theorem kIte_ap (a b : LE) (σ : St) (x : D) (S : List O) : kIte T Φ a b σ x S = iteR T Φ a b σ (truth S x) S := rfl
@[simp] theorem kCall_ap (f : Nat) (ds : List D) (S : List O) : kCall Φ f ds S = Φ f ds S := rfl
@[simp] theorem kNew_ap (c : Nat) (ds : List D) (S : List O) : kNew T Φ c ds S = newD T Φ c ds S := rfl
@[simp] theorem kBi_ap (f : Bi) (ds : List D) (S : List O) : kBi T Φ f ds S = biD T Φ f ds S := rfl
@[simp] theorem kBii_ap (f : Bi) (r : List D × List Nat) (S : List O) : kBii  f r S = biiD f r.1 S := rfl
@[simp] theorem kMth_ap (b : Option Bm) (m : Option Nat) (es : LEs) (σ : St) (x : D) (S : List O) : kMth T Φ b m es σ x S = mthR T Φ es σ x (mtyp T x b m S) S := rfl
@[simp] theorem kMth2_ap (k : MK) (x : D) (ds : List D) (S : List O) : kMth2 Φ k x ds S = mthK Φ k x ds S := rfl
@[simp] theorem kAtr_ap (f : Nat) (x : D) (S : List O) : kAtr T Φ f x S = atrD T Φ x f S := rfl
@[simp] theorem kIdx_ap (i : LE) (σ : St) (x : D) (S : List O) : kIdx T Φ i σ x S = (ev T Φ i σ S).bind (kIdx2 T Φ x) := rfl
@[simp] theorem kSlc_ap (lo hi : LO) (σ : St) (x : D) (S : List O) : kSlc T Φ lo hi σ x S = (evO T Φ lo σ S).bind (kSlc2 T Φ x hi σ) := rfl
@[simp] theorem kTup_ap  (ds : List D) (S : List O) : kTup   ds S = if ds.length ≤ lim then .ok (.tup ds) S else .bad := rfl
@[simp] theorem kLst_ap (mu : Bool) (ds : List D) (S : List O) : kLst  mu ds S = if ds.length ≤ lim then if mu then .ok (.ref S.length) (S ++ [.lst ds]) else .ok (.lst ds) S else .bad := rfl
@[simp] theorem kDct_ap (mu : Bool) (vs : LEs) (σ : St) (kd : List D) (S : List O) : kDct T Φ mu vs σ kd S = (evs T Φ vs σ S).bind (kDct2 mu kd) := rfl
@[simp] theorem kEvs_ap (es : LEs) (σ : St) (x : D) (S : List O) : kEvs T Φ es σ x S = (evs T Φ es σ S).bind (kEvs2 x) := rfl
@[simp] theorem kEvT_ap  (x : D) (S : List O) : kEvT   x S = boolO (truth S x) S := rfl
@[simp] theorem kVal_ap  (x : D) (S : List O) : kVal   x S = wkR x.refs (walk? S x) S := rfl
@[simp] theorem kRng_ap  (ds : List D) (S : List O) : kRng   ds S = wkR [] (rngD ds) S := rfl
@[simp] theorem kZip_ap  (ds : List D) (S : List O) : kZip   ds S = wkR (ds.flatMap D.refs) (zipD S ds) S := rfl
@[simp] theorem kEnm_ap  (x : D) (S : List O) : kEnm   x S = wkR x.refs ((items? S x).map (enmL 0)) S := rfl
@[simp] theorem kRet_ap  (x : D) (S : List O) : kRet   x S = .ok (.rt x) S := rfl
@[simp] theorem kExp_ap (σ : St) (x : D) (S : List O) : kExp  σ x S = .ok (.nx σ) S := rfl
@[simp] theorem kAsg_ap (t : LT) (σ : St) (x : D) (S : List O) : kAsg  t σ x S = ptR (t.put x σ) S := rfl
@[simp] theorem kAsa_ap (o : LE) (f : Nat) (σ : St) (x : D) (S : List O) : kAsa T Φ o f σ x S = (ev T Φ o σ S).bs σ (kAsa2 T f x σ) := rfl
@[simp] theorem kAsi_ap (o i : LE) (σ : St) (x : D) (S : List O) : kAsi T Φ o i σ x S = (ev T Φ o σ S).bs σ (kAsi2 T Φ i x σ) := rfl
@[simp] theorem kIfs_ap (a b : LSs) (σ : St) (x : D) (S : List O) : kIfs T Φ W a b σ x S = ifsR T Φ W a b σ (truth S x) S := rfl
@[simp] theorem kFor_ap (t : LT) (b : LSs) (σ : St) (r : List D × List Nat) (S : List O) : kFor T Φ W t b σ r S = forR T Φ W t b S r.2 r.1 σ S := rfl
@[simp] theorem kAug_ap (i : Nat) (op : Operator) (a : Int) (σ : St) (y : D) (S : List O) : kAug  i op a σ y S = augR i op a y σ S := rfl
@[simp] theorem kLc_ap (mu : Bool) (e : LE) (t : LT) (ifs : LO) (own : List Nat) (σ : St) (r : List D × List Nat) (S : List O) : kLc T Φ mu e t ifs own σ r S = lcR T Φ mu e t ifs own σ r S := rfl
@[simp] theorem kDc_ap (mu : Bool) (k v : LE) (t : LT) (ifs : LO) (own : List Nat) (σ : St) (r : List D × List Nat) (S : List O) : kDc T Φ mu k v t ifs own σ r S = dcR T Φ mu k v t ifs own σ r S := rfl

theorem kChn3_t (o2 : CmpOp) (y : D) (c : LE) (σ : St) (S : List O) : kChn3 T Φ o2 y c σ (.bl true) S = (ev T Φ c σ S).bind (kChn4 T Φ o2 y) := rfl
@[simp] theorem kChn3_ap (o2 : CmpOp) (y : D) (c : LE) (σ : St) (k : Bool) (S : List O) : kChn3 T Φ o2 y c σ (.bl k) S = chnR T Φ o2 y c σ k S := by cases k <;> rfl
@[simp] theorem kChn4_ap (o2 : CmpOp) (y z : D) (S : List O) : kChn4 T Φ o2 y z S = cmpD T Φ o2 y z S := rfl
@[simp] theorem andR_t (b : LE) (σ : St) (x : D) (S : List O) : andR T Φ b σ x (some true) S = ev T Φ b σ S := rfl
@[simp] theorem andR_f (b : LE) (σ : St) (x : D) (S : List O) : andR T Φ b σ x (some false) S = .ok x S := rfl
@[simp] theorem orR_t (b : LE) (σ : St) (x : D) (S : List O) : orR T Φ b σ x (some true) S = .ok x S := rfl
@[simp] theorem orR_f (b : LE) (σ : St) (x : D) (S : List O) : orR T Φ b σ x (some false) S = ev T Φ b σ S := rfl
@[simp] theorem iteR_t (a b : LE) (σ : St) (S : List O) : iteR T Φ a b σ (some true) S = ev T Φ a σ S := rfl
@[simp] theorem iteR_f (a b : LE) (σ : St) (S : List O) : iteR T Φ a b σ (some false) S = ev T Φ b σ S := rfl
@[simp] theorem ifsR_t (a b : LSs) (σ : St) (S : List O) : ifsR T Φ W a b σ (some true) S = exs T Φ W a σ S := rfl
@[simp] theorem ifsR_f (a b : LSs) (σ : St) (S : List O) : ifsR T Φ W a b σ (some false) S = exs T Φ W b σ S := rfl
@[simp] theorem chnR_t (o2 : CmpOp) (y : D) (c : LE) (σ : St) (S : List O) : chnR T Φ o2 y c σ true S = (ev T Φ c σ S).bind (kChn4 T Φ o2 y) := rfl
@[simp] theorem chnR_f (o2 : CmpOp) (y : D) (c : LE) (σ : St) (S : List O) : chnR T Φ o2 y c σ false S = .ok (.bl false) S := rfl
@[simp] theorem mthR_own (f : Nat) (es : LEs) (σ : St) (x : D) (S : List O) : mthR T Φ es σ x (some (.own f)) S = (evs T Φ es σ S).bind (kMth2 Φ (.own f) x) := rfl
@[simp] theorem mthR_bm (b : Bm) (es : LEs) (σ : St) (x : D) (S : List O) : mthR T Φ es σ x (some (.bm b)) S = (evs T Φ es σ S).bind (kMth2 Φ (.bm b) x) := rfl
@[simp] theorem ev_var (i : Nat) : ev T Φ (.var i) σ S = gv S σ[i]? := by rw [ev]; rcases σ[i]? with _ | _ | d <;> rfl
@[simp] theorem ev_cst (d : D) : ev T Φ (.cst d) σ S = .ok d S := by rw [ev]
@[simp] theorem ev_bin (op : Operator) (a b : LE) : ev T Φ (.bin op a b) σ S = (ev T Φ a σ S).bind (kBin T Φ op b σ) := by rw [ev]; rfl
@[simp] theorem ev_cmp (op : CmpOp) (a b : LE) : ev T Φ (.cmp op a b) σ S = (ev T Φ a σ S).bind (kCmp T Φ op b σ) := by rw [ev]; rfl
@[simp] theorem ev_chn (o1 o2 : CmpOp) (a b c : LE) : ev T Φ (.chn o1 o2 a b c) σ S = (ev T Φ a σ S).bind (kChn T Φ o1 o2 b c σ) := by rw [ev]; rfl
@[simp] theorem ev_and (a b : LE) : ev T Φ (.and a b) σ S = (ev T Φ a σ S).bind (kAnd T Φ b σ) := by rw [ev]; rfl
@[simp] theorem ev_or (a b : LE) : ev T Φ (.or a b) σ S = (ev T Φ a σ S).bind (kOr T Φ b σ) := by rw [ev]; rfl
@[simp] theorem ev_not (a : LE) : ev T Φ (.not a) σ S = (ev T Φ a σ S).bind (kNot ) := by rw [ev]; rfl
@[simp] theorem ev_ite (c a b : LE) : ev T Φ (.ite c a b) σ S = (ev T Φ c σ S).bind (kIte T Φ a b σ) := by rw [ev]; rfl
@[simp] theorem ev_call (f : Nat) (es : LEs) : ev T Φ (.call f es) σ S = (evs T Φ es σ S).bind (kCall Φ f) := by rw [ev]; rfl
@[simp] theorem ev_new (c : Nat) (es : LEs) : ev T Φ (.new c es) σ S = (evs T Φ es σ S).bind (kNew T Φ c) := by rw [ev]; rfl
@[simp] theorem ev_bi (f : Bi) (es : LEs) : ev T Φ (.bi f es) σ S = (evs T Φ es σ S).bind (kBi T Φ f) := by rw [ev]; rfl
@[simp] theorem ev_bii (f : Bi) (it : LI) : ev T Φ (.bii f it) σ S = (evI T Φ it σ S).bind (kBii f) := by rw [ev]; rfl
@[simp] theorem ev_mth (o : LE) (b : Option Bm) (m : Option Nat) (es : LEs) : ev T Φ (.mth o b m es) σ S = (ev T Φ o σ S).bind (kMth T Φ b m es σ) := by rw [ev]; rfl
@[simp] theorem ev_atr (o : LE) (f : Nat) : ev T Φ (.atr o f) σ S = (ev T Φ o σ S).bind (kAtr T Φ f) := by rw [ev]; rfl
@[simp] theorem ev_idx (a i : LE) : ev T Φ (.idx a i) σ S = (ev T Φ a σ S).bind (kIdx T Φ i σ) := by rw [ev]; rfl
@[simp] theorem ev_slc (a : LE) (lo hi : LO) : ev T Φ (.slc a lo hi none) σ S = (ev T Φ a σ S).bind (kSlc T Φ lo hi σ) := by rw [ev]; rfl
@[simp] theorem ev_tup (es : LEs) : ev T Φ (.tup es) σ S = (evs T Φ es σ S).bind (kTup ) := by rw [ev]; rfl
@[simp] theorem ev_lst (mu : Bool) (es : LEs) : ev T Φ (.lst mu es) σ S = (evs T Φ es σ S).bind (kLst mu) := by rw [ev]; rfl
@[simp] theorem ev_dct (mu : Bool) (ks vs : LEs) : ev T Φ (.dct mu ks vs) σ S = (evs T Φ ks σ S).bind (kDct T Φ mu vs σ) := by rw [ev]; rfl
@[simp] theorem ev_lc (mu : Bool) (e : LE) (t : LT) (it : LI) (ifs : LO) (own : List Nat) : ev T Φ (.lc mu e t it ifs own) σ S = (evI T Φ it σ S).bind (kLc T Φ mu e t ifs own σ) := by rw [ev]; rfl
@[simp] theorem ev_dc (mu : Bool) (k v : LE) (t : LT) (it : LI) (ifs : LO) (own : List Nat) : ev T Φ (.dc mu k v t it ifs own) σ S = (evI T Φ it σ S).bind (kDc T Φ mu k v t ifs own σ) := by rw [ev]; rfl
@[simp] theorem evs_nil  : evs T Φ .nil σ S = .ok [] S := by rw [evs]
@[simp] theorem evs_cons (e : LE) (es : LEs) : evs T Φ (.cons e es) σ S = (ev T Φ e σ S).bind (kEvs T Φ es σ) := by rw [evs]; rfl
@[simp] theorem evO_no  : evO T Φ .no σ S = .ok none S := by rw [evO]
@[simp] theorem evO_some (e : LE) : evO T Φ (.some e) σ S = (ev T Φ e σ S).bind intO := by rw [evO]; rfl
@[simp] theorem evT_no  : evT T Φ .no σ S = .ok true S := by rw [evT]
@[simp] theorem evT_some (e : LE) : evT T Φ (.some e) σ S = (ev T Φ e σ S).bind (kEvT ) := by rw [evT]; rfl
@[simp] theorem evI_val (e : LE) : evI T Φ (.val e) σ S = (ev T Φ e σ S).bind (kVal ) := by rw [evI]; rfl
@[simp] theorem evI_rng (es : LEs) : evI T Φ (.rng es) σ S = (evs T Φ es σ S).bind (kRng ) := by rw [evI]; rfl
@[simp] theorem evI_zip (es : LEs) : evI T Φ (.zip es) σ S = (evs T Φ es σ S).bind (kZip ) := by rw [evI]; rfl
@[simp] theorem evI_enm (e : LE) : evI T Φ (.enm e) σ S = (ev T Φ e σ S).bind (kEnm ) := by rw [evI]; congr 1; funext x S; simp only [kEnm]; cases items? S x <;> rfl
@[simp] theorem ex_exp (e : LE) : ex T Φ W (.exp e) σ S = (ev T Φ e σ S).bs σ (kExp σ) := by rw [ex]; rfl
@[simp] theorem ex_asg (t : LT) (e : LE) : ex T Φ W (.asg t e) σ S = (ev T Φ e σ S).bs σ (kAsg t σ) := by rw [ex]; rfl
@[simp] theorem ex_asa (o : LE) (f : Nat) (e : LE) : ex T Φ W (.asa o f e) σ S = (ev T Φ e σ S).bs σ (kAsa T Φ o f σ) := by rw [ex]; rfl
@[simp] theorem ex_asi (o i e : LE) : ex T Φ W (.asi o i e) σ S = (ev T Φ e σ S).bs σ (kAsi T Φ o i σ) := by rw [ex]; rfl
@[simp] theorem ex_ifs (c : LE) (a b : LSs) : ex T Φ W (.ifs c a b) σ S = (ev T Φ c σ S).bs σ (kIfs T Φ W a b σ) := by rw [ex]; rfl
@[simp] theorem ex_fors (t : LT) (it : LI) (b : LSs) : ex T Φ W (.fors t it b) σ S = (evI T Φ it σ S).bs σ (kFor T Φ W t b σ) := by rw [ex]; rfl
@[simp] theorem ex_whl (c : LE) (b : LSs) : ex T Φ W (.whl c b) σ S = whR T Φ W c b W σ S := by rw [ex]; rfl
@[simp] theorem ex_ret (e : LE) : ex T Φ W (.ret e) σ S = (ev T Φ e σ S).bs σ (kRet ) := by rw [ex]; rfl
@[simp] theorem ex_rtn  : ex T Φ W .rtn σ S = .ok (.rt .non) S := by rw [ex]
theorem ex_aug (i : Nat) (op : Operator) (e : LE) (a : Int) (h : σ[i]? = some (some (.int a))) : ex T Φ W (.aug i op e) σ S = (ev T Φ e σ S).bs σ (kAug i op a σ) := by
  rw [ex, h]; rfl
@[simp] theorem exs_nil : exs T Φ W .nil σ S = .ok (.nx σ) S := by rw [exs]
@[simp] theorem kExs_ap (ss : LSs) (σ : St) (S : List O) : kExs T Φ W ss σ S = exs T Φ W ss σ S := rfl
@[simp] theorem exs_cons (s : LS) (ss : LSs) : exs T Φ W (.cons s ss) σ S = (ex T Φ W s σ S).next (kExs T Φ W ss) := by
  rw [exs]
  cases ex T Φ W s σ S with
  | ok r S => cases r <;> rfl
  | err e S => rfl
  | bad => rfl
@[simp] theorem put_nm (i : Nat) (d : D) : (LT.nm i).put d σ = some (σ.set i (some d)) := rfl
@[simp] theorem putsO_some (ts : LTs) (ds : List D) : putsO (some σ) ts ds = ts.puts ds σ := rfl
@[simp] theorem put_tp (ts : LTs) (ds : List D) : (LT.tp ts).put (.tup ds) σ = ts.puts ds σ := rfl
@[simp] theorem puts_nil : LTs.nil.puts [] σ = some σ := rfl
@[simp] theorem puts_cons (t : LT) (ts : LTs) (d : D) (ds : List D) : (LTs.cons t ts).puts (d :: ds) σ = putsO (t.put d σ) ts ds := by
  unfold LTs.puts
  cases t.put d σ <;> rfl
@[simp] theorem wipe_nil : wipe σ [] = σ := rfl
@[simp] theorem wipe_cons (v : Nat) (vs : List Nat) : wipe σ (v :: vs) = (wipe σ vs).set v none := rfl
@[simp] theorem truth_bl (b : Bool) : truth S (.bl b) = some b := rfl
end
/-! ### walks -/
section
variable {T : Tab} {Φ : Fn} {W : Nat} {t : LT} {b : LSs} {S0 : List O} {ns : List Nat}
@[simp] theorem keeps_nil (S S' : List O) : Keeps S [] S' := fun _ h => by cases h
theorem keeps_self (S : List O) (ns : List Nat) : Keeps S ns S := fun _ _ => rfl
@[simp] theorem forR_nil (σ : St) (S : List O) : forR T Φ W t b S0 ns [] σ S = .ok (.nx σ) S := rfl
theorem forR_step {d : D} {ds : List D} {σ σ' σ2 : St} {S S2 : List O} (hp : t.put d σ = some σ') (hb : exs T Φ W b σ' S = .ok (.nx σ2) S2) (hk : Keeps S0 ns S2) :
    forR T Φ W t b S0 ns (d :: ds) σ S = forR T Φ W t b S0 ns ds σ2 S2 := by
  unfold forR
  rw [loopF, hp]
  simp only [hb]
  rw [if_pos hk]
theorem forR_ret {d : D} {ds : List D} {σ σ' : St} {S S2 : List O} {x : D} (hp : t.put d σ = some σ') (hb : exs T Φ W b σ' S = .ok (.rt x) S2) :
    forR T Φ W t b S0 ns (d :: ds) σ S = .ok (.rt x) S2 := by
  unfold forR
  rw [loopF, hp]
  simp only [hb]
/-- an invariant over what is gone over -/
theorem forR_inv {α : Type} (xs : List α) (g : α → D) (I : List α → St → List O → Prop)
    (step : ∀ pre x post σ S, xs = pre ++ x :: post → I pre σ S → ∃ σ' σ2 S2, t.put (g x) σ = some σ' ∧ exs T Φ W b σ' S = .ok (.nx σ2) S2 ∧ Keeps S0 ns S2 ∧ I (pre ++ [x]) σ2 S2)
    {σ : St} {S : List O} (h0 : I [] σ S) : ∃ σ' S', forR T Φ W t b S0 ns (xs.map g) σ S = .ok (.nx σ') S' ∧ I xs σ' S' := by
  have key : ∀ (post pre : List α) (σ : St) (S : List O), xs = pre ++ post → I pre σ S → ∃ σ' S', forR T Φ W t b S0 ns (post.map g) σ S = .ok (.nx σ') S' ∧ I xs σ' S' := by
    intro post
    induction post with
    | nil =>
      intro pre σ S e i
      rw [List.append_nil] at e
      exact ⟨σ, S, rfl, e ▸ i⟩
    | cons x post ih =>
      intro pre σ S e i
      obtain ⟨σ', σ2, S2, hp, hb, hk, i2⟩ := step pre x post σ S e i
      rw [List.map_cons, forR_step hp hb hk]
      exact ih (pre ++ [x]) σ2 S2 (by rw [e]; simp) i2
  exact key xs [] σ S rfl h0
open Classical in
theorem map1_pure {α : Type} {f : D → List O → R (List D)} {keep : List O → Prop} {S : List O} (hk : keep S) (xs : List α) (g : α → D) (h : α → List D) (hf : ∀ x ∈ xs, f (g x) S = .ok (h x) S) :
    map1 f keep (xs.map g) S = .ok (xs.flatMap h) S := by
  induction xs with
  | nil => rfl
  | cons x xs ih =>
    rw [List.map_cons, map1, hf x (by simp)]
    simp only [if_pos hk]
    rw [ih fun y hy => hf y (by simp [hy])]
    rfl
open Classical in
/-- a comprehension that changes nothing -/
theorem lcR_pure {α : Type} {mu : Bool} {e : LE} {ifs : LO} {own : List Nat} {σ : St} {S : List O} {rs : List Nat} (xs : List α) (g h : α → D) (p : α → Bool)
    (hf : ∀ x ∈ xs, ∃ σ', t.put (g x) (wipe σ own) = some σ' ∧ evT T Φ ifs σ' S = .ok (p x) S ∧ (p x = true → ev T Φ e σ' S = .ok (h x) S)) (hl : xs.length ≤ lim) :
    lcR T Φ mu e t ifs own σ (xs.map g, rs) S = if mu then .ok (.ref S.length) (S ++ [.lst ((xs.filter p).map h)]) else .ok (.lst ((xs.filter p).map h)) S := by
  have e1 : map1 (lcG T Φ e t ifs own σ) (Keeps S rs) (xs.map g) S = .ok ((xs.filter p).map h) S := by
    have e2 : xs.flatMap (fun x => if p x then [h x] else []) = (xs.filter p).map h := by
      clear hf hl
      induction xs with
      | nil => rfl
      | cons x xs ih =>
        rw [List.flatMap_cons, ih]
        by_cases hp : p x = true
        · simp [hp]
        · simp [hp]
    rw [map1_pure (keeps_self S rs) xs g (fun x => if p x then [h x] else []) ?_, e2]
    intro x hx
    obtain ⟨σ', h1, h2, h3⟩ := hf x hx
    unfold lcG
    rw [h1]
    dsimp only
    rw [h2]
    dsimp only [R.bind_ok]
    cases hp : p x with
    | false => rfl
    | true =>
      rw [if_pos rfl, h3 hp]
      rfl
  unfold lcR
  dsimp only
  rw [e1]
  dsimp only
  rw [if_pos (Nat.le_trans (by rw [List.length_map]; exact List.length_filter_le _ _) hl)]
/-- without a test -/
theorem lcR_map {α : Type} {mu : Bool} {e : LE} {own : List Nat} {σ : St} {S : List O} {rs : List Nat} (xs : List α) (g h : α → D)
    (hf : ∀ x ∈ xs, ∃ σ', t.put (g x) (wipe σ own) = some σ' ∧ ev T Φ e σ' S = .ok (h x) S) (hl : xs.length ≤ lim) :
    lcR T Φ mu e t .no own σ (xs.map g, rs) S = if mu then .ok (.ref S.length) (S ++ [.lst (xs.map h)]) else .ok (.lst (xs.map h)) S := by
  rw [lcR_pure xs g h (fun _ => true) (fun x hx => let ⟨σ', h1, h2⟩ := hf x hx; ⟨σ', h1, evT_no, fun _ => h2⟩) hl, List.filter_eq_self.mpr fun _ _ => rfl]
/-! while -/
theorem whR_stop {c : LE} {n : Nat} {σ : St} {S S1 : List O} (hc : whC T Φ c σ S = .ok false S1) : whR T Φ W c b (n + 1) σ S = .ok (.nx σ) S1 := by
  unfold whR
  rw [loopW, hc]
  rfl
theorem whR_step {c : LE} {n : Nat} {σ σ2 : St} {S S1 S2 : List O} (hc : whC T Φ c σ S = .ok true S1) (hb : exs T Φ W b σ S1 = .ok (.nx σ2) S2) : whR T Φ W c b (n + 1) σ S = whR T Φ W c b n σ2 S2 := by
  unfold whR
  rw [loopW, hc]
  dsimp only [R.bs_ok]
  rw [hb]
theorem whC_of {c : LE} {σ : St} {S S1 : List O} {k : Bool} {d : D} (h : ev T Φ c σ S = .ok d S1) (ht : truth S1 d = some k) : whC T Φ c σ S = .ok k S1 := by
  unfold whC
  rw [h, R.bind_ok, ht]
end
end Z.M
end

section
set_option Elab.async false
set_option linter.all false
set_option maxRecDepth 100000
/-! the bodies of the defs, printed from the table by pb.py -/
namespace PB
open PySem PySem.W Z
/-! is_name -/
def b433 : LSs :=
  (.cons (.ifs (.or (.not (.bi .isinstance (.cons (.var 0) (.cons (.cst (.ty .str)) .nil)))) (.not (.chn .LtE .LtE (.cst (.int 1)) (.bi .len (.cons (.var 0) .nil)) (.cst (.int 8))))) (.cons (.ret (.cst (.bl false))) .nil) .nil) (.cons (.ret (.bi .all (.cons (.lc false (.cmp .In (.var 2) (.cst (.str "abcdefghijklmnopqrstuvwxyz"))) (.nm 2) (.val (.var 0)) .no [1, 2]) .nil))) .nil))
def f433 : FnDef := { ps := 1, n := 3, body := b433, dfl := [], tr := false }
/-! is_tuple -/
def b444 : LSs :=
  (.cons (.ret (.and (.bi .isinstance (.cons (.var 0) (.cons (.cst (.ty .tuple)) .nil))) (.cmp .Eq (.bi .len (.cons (.var 0) .nil)) (.var 1)))) .nil)
def f444 : FnDef := { ps := 2, n := 2, body := b444, dfl := [], tr := false }
/-! is_word -/
def b447 : LSs :=
  (.cons (.ret (.and (.bi .isinstance (.cons (.var 0) (.cons (.cst (.ty .str)) .nil))) (.cmp .In (.var 0) (.var 1)))) .nil)
def f447 : FnDef := { ps := 2, n := 2, body := b447, dfl := [], tr := false }
/-! are_unlike -/
def b387 : LSs :=
  (.cons (.ret (.cmp .Eq (.bi .len (.cons (.dc false (.var 2) (.cst (.bl true)) (.nm 2) (.val (.var 0)) .no [1, 2]) .nil)) (.bi .len (.cons (.var 0) .nil)))) .nil)
def f387 : FnDef := { ps := 1, n := 3, body := b387, dfl := [], tr := false }
/-! do_ascend -/
def b412 : LSs :=
  (.cons (.ret (.bi .all (.cons (.lc false (.cmp .Lt (.var 2) (.var 3)) (.tp (.cons (.nm 2) (.cons (.nm 3) .nil))) (.zip (.cons (.var 0) (.cons (.slc (.var 0) (.some (.cst (.int 1))) .no none) .nil))) .no [1, 2, 3]) .nil))) .nil)
def f412 : FnDef := { ps := 1, n := 4, body := b412, dfl := [], tr := false }
/-! new_words -/
def b461 : LSs :=
  (.cons (.asg (.tp (.cons (.nm 2) (.cons (.nm 3) .nil))) (.tup (.cons (.lst true .nil) (.cons (.cst (.int 0)) .nil)))) (.cons (.whl (.cmp .Lt (.bi .len (.cons (.var 2) .nil)) (.var 1)) (.cons (.asg (.tp (.cons (.nm 4) (.cons (.nm 5) .nil))) (.tup (.cons (.cst (.str "")) (.cons (.var 3) .nil)))) (.cons (.whl (.or (.cmp .Eq (.var 4) (.cst (.str ""))) (.cmp .Gt (.var 5) (.cst (.int 0)))) (.cons (.asg (.tp (.cons (.nm 4) (.cons (.nm 5) .nil))) (.tup (.cons (.bin .Add (.var 4) (.idx (.cst (.str "abcdefghijklmnopqrstuvwxyz")) (.bin .Mod (.var 5) (.bi .len (.cons (.cst (.str "abcdefghijklmnopqrstuvwxyz")) .nil))))) (.cons (.bin .FloorDiv (.var 5) (.bi .len (.cons (.cst (.str "abcdefghijklmnopqrstuvwxyz")) .nil))) .nil)))) .nil)) (.cons (.asg (.nm 4) (.bin .Add (.cst (.str "new")) (.var 4))) (.cons (.ifs (.cmp .NotIn (.var 4) (.var 0)) (.cons (.exp (.mth (.var 2) (some .append) (some 13) (.cons (.var 4) .nil))) .nil) .nil) (.cons (.aug 3 .Add (.cst (.int 1))) .nil)))))) (.cons (.ret (.var 2)) .nil)))
def f461 : FnDef := { ps := 2, n := 6, body := b461, dfl := [], tr := true }
/-! are_some -/
def b384 : LSs :=
  (.cons (.ret (.and (.chn .LtE .LtE (.cst (.int 1)) (.bi .len (.cons (.var 0) .nil)) (.var 2)) (.and (.call 387 (.cons (.var 0) .nil)) (.bi .all (.cons (.lc false (.cmp .In (.var 4) (.var 1)) (.nm 4) (.val (.var 0)) .no [3, 4]) .nil))))) .nil)
def f384 : FnDef := { ps := 3, n := 5, body := b384, dfl := [], tr := false }
/-! can_be_key -/
def b391 : LSs :=
  (.cons (.ifs (.or (.not (.bi .isinstance (.cons (.var 2) (.cons (.cst (.ty .tuple)) .nil)))) (.not (.bi .all (.cons (.lc false (.call 447 (.cons (.var 4) (.cons (.var 0) .nil))) (.nm 4) (.val (.var 2)) .no [3, 4]) .nil)))) (.cons (.ret (.cst (.bl false))) .nil) .nil) (.cons (.ret (.and (.call 384 (.cons (.var 2) (.cons (.var 0) (.cons (.cst (.int 4)) .nil)))) (.bi .all (.cons (.lc false (.cmp .NotEq (.bi .sorted (.cons (.var 5) .nil)) (.bi .sorted (.cons (.var 2) .nil))) (.nm 5) (.val (.var 1)) .no [3, 5]) .nil)))) .nil))
def f391 : FnDef := { ps := 3, n := 6, body := b391, dfl := [], tr := false }
/-! all_keys -/
def b379 : LSs :=
  (.cons (.asg (.nm 1) (.lst true .nil)) (.cons (.fors (.nm 2) (.val (.atr (.var 0) 49)) (.cons (.exp (.mth (.var 1) (some .extend) (some 24) (.cons (.lc false (.tup (.cons (.var 2) (.cons (.idx (.var 0) (.var 2)) (.cons (.var 4) .nil)))) (.nm 4) (.val (.mth (.var 0) none (some 46) (.cons (.var 2) .nil))) .no [3, 4]) .nil))) .nil)) (.cons (.ret (.var 1)) .nil)))
def f379 : FnDef := { ps := 1, n := 5, body := b379, dfl := [], tr := true }
/-! is_row -/
def b438 : LSs :=
  (.cons (.ret (.and (.call 444 (.cons (.var 1) (.cons (.bi .len (.cons (.atr (.var 0) 18) .nil)) .nil))) (.bi .all (.cons (.lc false (.call 433 (.cons (.var 3) .nil)) (.nm 3) (.val (.var 1)) .no [2, 3]) .nil)))) .nil)
def f438 : FnDef := { ps := 2, n := 4, body := b438, dfl := [], tr := false }
/-! is_whole -/
def b445 : LSs :=
  (.cons (.ifs (.or (.not (.bi .isinstance (.cons (.var 1) (.cons (.cst (.ty .tuple)) .nil)))) (.not (.bi .all (.cons (.lc false (.call 438 (.cons (.var 0) (.cons (.var 3) .nil))) (.nm 3) (.val (.var 1)) .no [2, 3]) .nil)))) (.cons (.ret (.cst (.bl false))) .nil) .nil) (.cons (.ret (.call 412 (.cons (.var 1) .nil))) .nil))
def f445 : FnDef := { ps := 2, n := 4, body := b445, dfl := [], tr := false }
/-! are_columns -/
def b382 : LSs :=
  (.cons (.ifs (.or (.not (.bi .isinstance (.cons (.var 1) (.cons (.cst (.ty .tuple)) .nil)))) (.or (.cmp .Eq (.var 1) (.tup .nil)) (.not (.bi .all (.cons (.lc false (.call 447 (.cons (.var 3) (.cons (.atr (.var 0) 18) .nil))) (.nm 3) (.val (.var 1)) .no [2, 3]) .nil))))) (.cons (.ret (.cst (.bl false))) .nil) .nil) (.cons (.ret (.call 412 (.cons (.lc false (.mth (.atr (.var 0) 18) (some .index) (some 33) (.cons (.var 3) .nil)) (.nm 3) (.val (.var 1)) .no [2, 3]) .nil))) .nil))
def f382 : FnDef := { ps := 2, n := 4, body := b382, dfl := [], tr := false }
/-! check_columns -/
def b394 : LSs :=
  (.cons (.ifs (.not (.call 382 (.cons (.var 0) (.cons (.var 1) .nil)))) (.cons .nev .nil) .nil) .nil)
def f394 : FnDef := { ps := 2, n := 2, body := b394, dfl := [], tr := false }
/-! cut -/
def b409 : LSs :=
  (.cons (.ret (.bi .tuple (.cons (.lc false (.tup (.cons (.var 4) (.cons (.var 5) .nil))) (.tp (.cons (.nm 4) (.cons (.nm 5) .nil))) (.zip (.cons (.atr (.var 0) 18) (.cons (.var 1) .nil))) (.some (.cmp .In (.var 4) (.var 2))) [3, 4, 5]) .nil))) .nil)
def f409 : FnDef := { ps := 3, n := 6, body := b409, dfl := [], tr := false }
/-! does_keep -/
def b413 : LSs :=
  (.cons (.fors (.tp (.cons (.nm 2) (.cons (.nm 3) (.cons (.nm 4) .nil)))) (.val (.call 379 (.cons (.var 0) .nil))) (.cons (.asg (.nm 5) (.dct true .nil .nil)) (.cons (.fors (.nm 6) (.val (.var 1)) (.cons (.asg (.nm 7) (.call 409 (.cons (.var 0) (.cons (.var 6) (.cons (.var 3) .nil))))) (.cons (.ifs (.cmp .NotEq (.mth (.var 5) (some .setdefault) (some 75) (.cons (.call 409 (.cons (.var 0) (.cons (.var 6) (.cons (.var 4) .nil)))) (.cons (.var 7) .nil))) (.var 7)) (.cons (.ret (.cst (.bl false))) .nil) .nil) .nil))) .nil))) (.cons (.ret (.cst (.bl true))) .nil))
def f413 : FnDef := { ps := 2, n := 8, body := b413, dfl := [], tr := true }
/-! ways_on -/
def b502 : LSs :=
  (.cons (.asg (.tp (.cons (.nm 3) (.cons (.nm 4) .nil))) (.tup (.cons (.dc true (.var 10) (.cst (.bl true)) (.nm 10) (.val (.var 1)) .no [9, 10]) (.cons (.lst true .nil) .nil)))) (.cons (.asg (.nm 5) (.cst (.bl true))) (.cons (.whl (.var 5) (.cons (.asg (.nm 5) (.cst (.bl false))) (.cons (.fors (.tp (.cons (.nm 6) (.cons (.nm 7) (.cons (.nm 8) .nil)))) (.val (.call 379 (.cons (.var 0) .nil))) (.cons (.ifs (.and (.cmp .NotEq (.var 6) (.var 2)) (.bi .all (.cons (.lc false (.cmp .In (.var 10) (.var 3)) (.nm 10) (.val (.var 8)) .no [9, 10]) .nil))) (.cons (.ifs (.not (.bi .all (.cons (.lc false (.cmp .In (.var 10) (.var 3)) (.nm 10) (.val (.var 7)) .no [9, 10]) .nil))) (.cons (.exp (.mth (.var 3) (some .update) (some 89) (.cons (.dc false (.var 10) (.cst (.bl true)) (.nm 10) (.val (.var 7)) .no [9, 10]) .nil))) (.cons (.exp (.mth (.var 4) (some .append) (some 13) (.cons (.tup (.cons (.var 6) (.cons (.var 8) .nil))) .nil))) (.cons (.asg (.nm 5) (.cst (.bl true))) .nil))) .nil) .nil) .nil) .nil)) .nil))) (.cons (.ret (.tup (.cons (.var 3) (.cons (.var 4) .nil)))) .nil))))
def f502 : FnDef := { ps := 3, n := 11, body := b502, dfl := [.str ""], tr := true }
/-! in_sequence -/
def b426 : LSs :=
  (.cons (.ret (.bi .tuple (.cons (.lc false (.var 3) (.nm 3) (.val (.atr (.var 0) 18)) (.some (.cmp .In (.var 3) (.var 1))) [2, 3]) .nil))) .nil)
def f426 : FnDef := { ps := 2, n := 4, body := b426, dfl := [], tr := false }
/-! settled -/
def b477 : LSs :=
  (.cons (.exp (.call 394 (.cons (.var 0) (.cons (.var 1) .nil)))) (.cons (.ret (.call 426 (.cons (.var 0) (.cons (.idx (.call 502 (.cons (.var 0) (.cons (.var 1) .nil))) (.cst (.int 0))) .nil)))) .nil))
def f477 : FnDef := { ps := 2, n := 2, body := b477, dfl := [], tr := false }
/-! parted -/
def b468 : LSs :=
  (.cons (.asg (.nm 2) (.idx (.call 502 (.cons (.var 0) (.cons (.var 1) .nil))) (.cst (.int 0)))) (.cons (.asg (.nm 3) (.call 461 (.cons (.dct false .nil .nil) (.cons (.bin .Mult (.cst (.int 2)) (.bi .len (.cons (.atr (.var 0) 18) .nil))) .nil)))) (.cons (.asg (.nm 4) (.slc (.var 3) .no (.some (.bi .len (.cons (.atr (.var 0) 18) .nil))) none)) (.cons (.asg (.nm 5) (.lc false (.ite (.cmp .In (.var 7) (.var 2)) (.var 8) (.var 9)) (.tp (.cons (.nm 7) (.cons (.nm 8) (.cons (.nm 9) .nil)))) (.zip (.cons (.atr (.var 0) 18) (.cons (.var 4) (.cons (.slc (.var 3) (.some (.bi .len (.cons (.var 4) .nil))) .no none) .nil)))) .no [6, 7, 8, 9])) (.cons (.ret (.bi .tuple (.cons (.bi .sorted (.cons (.lst false (.cons (.bi .tuple (.cons (.var 4) .nil)) (.cons (.bi .tuple (.cons (.var 5) .nil)) .nil))) .nil)) .nil))) .nil)))))
def f468 : FnDef := { ps := 2, n := 10, body := b468, dfl := [], tr := false }
/-! settles -/
def b478 : LSs :=
  (.cons (.exp (.call 394 (.cons (.var 0) (.cons (.var 1) .nil)))) (.cons (.exp (.call 394 (.cons (.var 0) (.cons (.var 2) .nil)))) (.cons (.asg (.tp (.cons (.nm 3) (.cons (.nm 4) .nil))) (.call 502 (.cons (.var 0) (.cons (.var 1) .nil)))) (.cons (.ifs (.bi .all (.cons (.lc false (.cmp .In (.var 6) (.var 3)) (.nm 6) (.val (.var 2)) .no [5, 6]) .nil)) (.cons (.ret (.tup (.cons (.cst (.str "yes")) (.cons (.bi .tuple (.cons (.var 4) .nil)) .nil)))) .nil) .nil) (.cons (.ret (.tup (.cons (.cst (.str "no")) (.cons (.call 468 (.cons (.var 0) (.cons (.var 1) .nil))) .nil)))) .nil)))))
def f478 : FnDef := { ps := 3, n := 7, body := b478, dfl := [], tr := false }
/-! are_ways -/
def b388 : LSs :=
  (.cons (.ifs (.not (.bi .isinstance (.cons (.var 3) (.cons (.cst (.ty .tuple)) .nil)))) (.cons (.ret (.cst (.bl false))) .nil) .nil) (.cons (.asg (.nm 4) (.dc true (.var 7) (.cst (.bl true)) (.nm 7) (.val (.var 1)) .no [6, 7])) (.cons (.fors (.nm 5) (.val (.var 3)) (.cons (.ifs (.or (.not (.call 444 (.cons (.var 5) (.cons (.cst (.int 2)) .nil)))) (.or (.cmp .NotIn (.idx (.var 5) (.cst (.int 0))) (.var 0)) (.cmp .NotIn (.idx (.var 5) (.cst (.int 1))) (.mth (.var 0) none (some 46) (.cons (.idx (.var 5) (.cst (.int 0))) .nil))))) (.cons (.ret (.cst (.bl false))) .nil) .nil) (.cons (.ifs (.not (.bi .all (.cons (.lc false (.cmp .In (.var 7) (.var 4)) (.nm 7) (.val (.idx (.var 5) (.cst (.int 1)))) .no [6, 7]) .nil))) (.cons (.ret (.cst (.bl false))) .nil) .nil) (.cons (.exp (.mth (.var 4) (some .update) (some 89) (.cons (.dc false (.var 7) (.cst (.bl true)) (.nm 7) (.val (.idx (.var 0) (.idx (.var 5) (.cst (.int 0))))) .no [6, 7]) .nil))) .nil)))) (.cons (.ret (.bi .all (.cons (.lc false (.cmp .In (.var 7) (.var 4)) (.nm 7) (.val (.var 2)) .no [6, 7]) .nil))) .nil))))
def f388 : FnDef := { ps := 4, n := 8, body := b388, dfl := [], tr := true }
/-! shows_settles -/
def b487 : LSs :=
  (.cons (.exp (.call 394 (.cons (.var 0) (.cons (.var 1) .nil)))) (.cons (.exp (.call 394 (.cons (.var 0) (.cons (.var 2) .nil)))) (.cons (.ifs (.or (.not (.call 444 (.cons (.var 3) (.cons (.cst (.int 2)) .nil)))) (.not (.call 447 (.cons (.idx (.var 3) (.cst (.int 0))) (.cons (.tup (.cons (.cst (.str "yes")) (.cons (.cst (.str "no")) .nil))) .nil))))) (.cons (.ret (.cst (.bl false))) .nil) .nil) (.cons (.ifs (.cmp .Eq (.idx (.var 3) (.cst (.int 0))) (.cst (.str "yes"))) (.cons (.ret (.call 388 (.cons (.var 0) (.cons (.var 1) (.cons (.var 2) (.cons (.idx (.var 3) (.cst (.int 1))) .nil)))))) .nil) .nil) (.cons (.ifs (.or (.not (.call 445 (.cons (.var 0) (.cons (.idx (.var 3) (.cst (.int 1))) .nil)))) (.or (.cmp .NotEq (.bi .len (.cons (.idx (.var 3) (.cst (.int 1))) .nil)) (.cst (.int 2))) (.not (.call 413 (.cons (.var 0) (.cons (.idx (.var 3) (.cst (.int 1))) .nil)))))) (.cons (.ret (.cst (.bl false))) .nil) .nil) (.cons (.asg (.tp (.cons (.nm 4) (.cons (.nm 5) .nil))) (.idx (.var 3) (.cst (.int 1)))) (.cons (.asg (.nm 6) (.lc false (.var 8) (.tp (.cons (.nm 8) (.cons (.nm 9) (.cons (.nm 10) .nil)))) (.zip (.cons (.atr (.var 0) 18) (.cons (.var 4) (.cons (.var 5) .nil)))) (.some (.cmp .Eq (.var 9) (.var 10))) [7, 8, 9, 10])) (.cons (.ret (.and (.bi .all (.cons (.lc false (.cmp .In (.var 8) (.var 6)) (.nm 8) (.val (.var 1)) .no [7, 8]) .nil)) (.not (.bi .all (.cons (.lc false (.cmp .In (.var 8) (.var 6)) (.nm 8) (.val (.var 2)) .no [7, 8]) .nil))))) .nil))))))))
def f487 : FnDef := { ps := 4, n := 11, body := b487, dfl := [], tr := false }
/-! _law_pot -/
def b317 : LSs :=
  (.cons (.asg (.nm 2) (.ite (.cmp .Lt (.var 1) (.bi .len (.cons (.var 0) .nil))) (.idx (.var 0) (.var 1)) (.bin .Add (.bin .Mult (.cst (.int 351)) (.var 1)) (.cst (.int 164))))) (.cons (.asg (.nm 3) (.bin .Mult (.bin .Mod (.bi .int (.cons (.bi .abs (.cons (.var 2) .nil)) .nil)) (.bin .Pow (.bin .Pow (.cst (.int 10)) (.cst (.int 60))) (.cst (.int 5)))) (.bi .int (.cons (.cmp .GtE (.bi .abs (.cons (.var 2) .nil)) (.bin .Pow (.cst (.int 10)) (.cst (.int 18)))) .nil)))) (.cons (.asg (.nm 4) (.bin .Mod (.bi .int (.cons (.var 2) .nil)) (.cst (.int 2305843009213693951)))) (.cons (.ret (.lst true (.cons (.var 3) (.cons (.bin .Mod (.bi .int (.cons (.bin .Add (.bin .Add (.bin .Mult (.var 4) (.cst (.int 73015))) (.bin .Mult (.bin .Mult (.cst (.int 8411)) (.var 1)) (.var 1))) (.cst (.int 197))) .nil)) (.cst (.int 2305843009213693921))) (.cons (.cst (.int 0)) .nil))))) .nil))))
def f317 : FnDef := { ps := 2, n := 5, body := b317, dfl := [], tr := false }
/-! _law_take -/
def b342 : LSs :=
  (.cons (.ifs (.cmp .Gt (.idx (.var 0) (.cst (.int 0))) (.cst (.int 0))) (.cons (.asg (.nm 2) (.bin .Mod (.bi .int (.cons (.idx (.var 0) (.cst (.int 0))) .nil)) (.var 1))) (.cons (.asi (.var 0) (.cst (.int 0)) (.bin .FloorDiv (.idx (.var 0) (.cst (.int 0))) (.var 1))) (.cons (.ret (.var 2)) .nil))) .nil) (.cons (.asi (.var 0) (.cst (.int 2)) (.bin .Add (.idx (.var 0) (.cst (.int 2))) (.cst (.int 1)))) (.cons (.asg (.nm 3) (.idx (.lst false (.cons (.cst (.int 2147483647)) (.cons (.cst (.int 2147483629)) (.cons (.cst (.int 2147483587)) (.cons (.cst (.int 2147483579)) (.cons (.cst (.int 2147483563)) .nil)))))) (.bin .Mod (.bi .int (.cons (.idx (.var 0) (.cst (.int 2))) .nil)) (.cst (.int 5))))) (.cons (.asg (.nm 4) (.bin .Mod (.bi .int (.cons (.bin .Pow (.bi .int (.cons (.bin .Add (.bin .Add (.idx (.var 0) (.cst (.int 1))) (.bin .Mult (.bin .Mult (.cst (.int 101229)) (.idx (.var 0) (.cst (.int 2)))) (.idx (.var 0) (.cst (.int 2))))) (.cst (.int 211))) .nil)) (.cst (.int 3))) .nil)) (.var 3))) (.cons (.asg (.nm 4) (.bin .Mod (.bi .int (.cons (.bin .Mult (.var 4) (.bin .Add (.bin .Mod (.bi .int (.cons (.var 4) .nil)) (.cst (.int 10301))) (.bin .Mult (.cst (.int 206)) (.idx (.var 0) (.cst (.int 2)))))) .nil)) (.cst (.int 2305843009213693907)))) (.cons (.ret (.bin .Mod (.bi .int (.cons (.bin .FloorDiv (.var 4) (.cst (.int 149))) .nil)) (.var 1))) .nil))))))
def f342 : FnDef := { ps := 2, n := 5, body := b342, dfl := [], tr := false }
/-! _law_of -/
def b295 : LSs :=
  (.cons (.ret (.idx (.var 1) (.call 342 (.cons (.var 0) (.cons (.bi .len (.cons (.var 1) .nil)) .nil))))) .nil)
def f295 : FnDef := { ps := 2, n := 2, body := b295, dfl := [], tr := false }
/-! _law_some -/
def b329 : LSs :=
  (.cons (.asg (.tp (.cons (.nm 3) (.cons (.nm 4) .nil))) (.tup (.cons (.bi .listM (.cons (.var 1) .nil)) (.cons (.lst true .nil) .nil)))) (.cons (.fors (.nm 5) (.rng (.cons (.var 2) .nil)) (.cons (.exp (.mth (.var 4) (some .append) (some 13) (.cons (.mth (.var 3) (some .pop) (some 69) (.cons (.call 342 (.cons (.var 0) (.cons (.bi .len (.cons (.var 3) .nil)) .nil))) .nil)) .nil))) .nil)) (.cons (.ret (.var 4)) .nil)))
def f329 : FnDef := { ps := 3, n := 6, body := b329, dfl := [], tr := true }
/-! _law_cells -/
def b132 : LSs :=
  (.cons (.ret (.bii .list (.rng (.cons (.bi .max (.cons (.cst (.int 1)) (.cons (.bi .min (.cons (.var 1) (.cons (.bi .len (.cons (.var 0) .nil)) .nil))) .nil))) .nil)))) .nil)
def f132 : FnDef := { ps := 2, n := 2, body := b132, dfl := [], tr := false }
/-! _law_is_name -/
def b214 : LSs :=
  (.cons (.ifs (.or (.not (.bi .isinstance (.cons (.var 0) (.cons (.cst (.ty .str)) .nil)))) (.not (.chn .LtE .LtE (.cst (.int 1)) (.bi .len (.cons (.var 0) .nil)) (.cst (.int 8))))) (.cons (.ret (.cst (.bl false))) .nil) .nil) (.cons (.ret (.bi .all (.cons (.lc false (.cmp .In (.var 2) (.cst (.str "abcdefghijklmnopqrstuvwxyz"))) (.nm 2) (.val (.var 0)) .no [1, 2]) .nil))) .nil))
def f214 : FnDef := { ps := 1, n := 3, body := b214, dfl := [], tr := false }
/-! _law_names -/
def b278 : LSs :=
  (.cons (.asg (.nm 2) (.lst false (.cons (.cst (.str "a")) (.cons (.cst (.str "b")) (.cons (.cst (.str "c")) (.cons (.cst (.str "d")) (.cons (.cst (.str "e")) (.cons (.cst (.str "f")) (.cons (.cst (.str "g")) (.cons (.cst (.str "who")) (.cons (.cst (.str "desk")) (.cons (.cst (.str "room")) (.cons (.cst (.str "key")) (.cons (.cst (.str "list")) (.cons (.cst (.str "columns")) (.cons (.cst (.str "house")) (.cons (.cst (.str "tell")) .nil))))))))))))))))) (.cons (.ret (.call 329 (.cons (.var 0) (.cons (.bin .Add (.var 2) (.lst false (.cons (.cst (.str "zzzzzzzz")) .nil))) (.cons (.var 1) .nil))))) .nil))
def f278 : FnDef := { ps := 2, n := 3, body := b278, dfl := [], tr := false }
/-! _law_lore -/
def b271 : LSs :=
  (.cons (.asg (.nm 3) (.call 278 (.cons (.var 0) (.cons (.bin .Add (.cst (.int 2)) (.call 342 (.cons (.var 0) (.cons (.bin .Sub (.var 1) (.cst (.int 1))) .nil)))) .nil)))) (.cons (.asg (.nm 4) (.lst true .nil)) (.cons (.fors (.nm 5) (.val (.call 278 (.cons (.var 0) (.cons (.bin .Add (.cst (.int 1)) (.call 342 (.cons (.var 0) (.cons (.var 2) .nil)))) .nil)))) (.cons (.asg (.nm 6) (.call 329 (.cons (.var 0) (.cons (.var 3) (.cons (.bin .Add (.cst (.int 1)) (.call 342 (.cons (.var 0) (.cons (.bi .min (.cons (.cst (.int 4)) (.cons (.bi .len (.cons (.var 3) .nil)) .nil))) .nil)))) .nil))))) (.cons (.ifs (.cmp .Eq (.bi .len (.cons (.var 6) .nil)) (.cst (.int 1))) (.cons (.asg (.nm 6) (.bin .Add (.var 6) (.call 329 (.cons (.var 0) (.cons (.lc false (.var 11) (.nm 11) (.val (.var 3)) (.some (.cmp .NotIn (.var 11) (.var 6))) [10, 11]) (.cons (.call 342 (.cons (.var 0) (.cons (.cst (.int 2)) .nil))) .nil)))))) .nil) .nil) (.cons (.asg (.nm 7) (.lst true .nil)) (.cons (.fors (.nm 8) (.rng (.cons (.call 295 (.cons (.var 0) (.cons (.lst false (.cons (.cst (.int 0)) (.cons (.cst (.int 1)) (.cons (.cst (.int 1)) (.cons (.cst (.int 1)) (.cons (.cst (.int 2)) .nil)))))) .nil))) .nil)) (.cons (.asg (.nm 9) (.call 329 (.cons (.var 0) (.cons (.var 6) (.cons (.bi .min (.cons (.bi .len (.cons (.var 6) .nil)) (.cons (.call 295 (.cons (.var 0) (.cons (.lst false (.cons (.cst (.int 1)) (.cons (.cst (.int 1)) (.cons (.cst (.int 1)) (.cons (.cst (.int 2)) .nil))))) .nil))) .nil))) .nil))))) (.cons (.ifs (.not (.bi .any (.cons (.lc false (.cmp .Eq (.bi .sorted (.cons (.var 9) .nil)) (.bi .sorted (.cons (.var 12) .nil))) (.nm 12) (.val (.var 7)) .no [10, 12]) .nil))) (.cons (.exp (.mth (.var 7) (some .append) (some 13) (.cons (.bi .tuple (.cons (.var 9) .nil)) .nil))) .nil) .nil) .nil))) (.cons (.exp (.mth (.var 4) (some .append) (some 13) (.cons (.tup (.cons (.var 5) (.cons (.bi .tuple (.cons (.var 6) .nil)) (.cons (.var 7) .nil)))) .nil))) .nil)))))) (.cons (.ret (.dct false (.cons (.cst (.str "columns")) (.cons (.cst (.str "lists")) .nil)) (.cons (.bi .tuple (.cons (.var 3) .nil)) (.cons (.var 4) .nil)))) .nil))))
def f271 : FnDef := { ps := 3, n := 13, body := b271, dfl := [], tr := true }
/-! _law_text -/
def b349 : LSs :=
  (.cons (.asg (.nm 1) (.lst true (.cons (.mth (.cst (.str " ")) (some .join) (some 41) (.cons (.bin .Add (.lst false (.cons (.cst (.str "columns")) .nil)) (.bi .list (.cons (.idx (.var 0) (.cst (.str "columns"))) .nil))) .nil)) .nil))) (.cons (.fors (.tp (.cons (.nm 2) (.cons (.nm 3) (.cons (.nm 4) .nil)))) (.val (.idx (.var 0) (.cst (.str "lists")))) (.cons (.exp (.mth (.var 1) (some .append) (some 13) (.cons (.mth (.cst (.str " ")) (some .join) (some 41) (.cons (.bin .Add (.lst false (.cons (.cst (.str "list")) (.cons (.var 2) .nil))) (.bi .list (.cons (.var 3) .nil))) .nil)) .nil))) (.cons (.exp (.mth (.var 1) (some .extend) (some 24) (.cons (.lc false (.mth (.cst (.str " ")) (some .join) (some 41) (.cons (.bin .Add (.lst false (.cons (.cst (.str "key")) .nil)) (.bi .list (.cons (.var 6) .nil))) .nil)) (.nm 6) (.val (.var 4)) .no [5, 6]) .nil))) .nil))) (.cons (.ret (.mth (.cst (.str "\n")) (some .join) (some 41) (.cons (.var 1) .nil))) .nil)))
def f349 : FnDef := { ps := 1, n := 7, body := b349, dfl := [], tr := true }
/-! _law_all_keys -/
def b84 : LSs :=
  (.cons (.asg (.nm 1) (.lst true .nil)) (.cons (.fors (.tp (.cons (.nm 2) (.cons (.nm 3) (.cons (.nm 4) .nil)))) (.val (.idx (.var 0) (.cst (.str "lists")))) (.cons (.exp (.mth (.var 1) (some .extend) (some 24) (.cons (.lc false (.tup (.cons (.var 2) (.cons (.var 3) (.cons (.var 6) .nil)))) (.nm 6) (.val (.var 4)) .no [5, 6]) .nil))) .nil)) (.cons (.ret (.var 1)) .nil)))
def f84 : FnDef := { ps := 1, n := 7, body := b84, dfl := [], tr := true }
/-! _law_keeps -/
def b255 : LSs :=
  (.cons (.fors (.tp (.cons (.nm 2) (.cons (.nm 3) (.cons (.nm 4) .nil)))) (.val (.call 84 (.cons (.var 0) .nil))) (.cons (.fors (.tp (.cons (.nm 5) (.cons (.nm 6) .nil))) (.enm (.var 1)) (.cons (.fors (.nm 7) (.val (.slc (.var 1) .no (.some (.var 5)) none)) (.cons (.ifs (.and (.bi .all (.cons (.lc false (.cmp .Eq (.idx (.var 6) (.var 9)) (.idx (.var 7) (.var 9))) (.nm 9) (.val (.var 4)) .no [8, 9]) .nil)) (.bi .any (.cons (.lc false (.cmp .NotEq (.idx (.var 6) (.var 9)) (.idx (.var 7) (.var 9))) (.nm 9) (.val (.var 3)) .no [8, 9]) .nil))) (.cons (.ret (.cst (.bl false))) .nil) .nil) .nil)) .nil)) .nil)) (.cons (.ret (.cst (.bl true))) .nil))
def f255 : FnDef := { ps := 2, n := 10, body := b255, dfl := [], tr := false }
/-! _law_columns -/
def b140 : LSs :=
  (.cons (.asg (.nm 2) (.bi .len (.cons (.idx (.var 1) (.cst (.str "columns"))) .nil))) (.cons (.asg (.nm 3) (.call 329 (.cons (.var 0) (.cons (.idx (.var 1) (.cst (.str "columns"))) (.cons (.call 295 (.cons (.var 0) (.cons (.lst false (.cons (.cst (.int 1)) (.cons (.bi .min (.cons (.cst (.int 2)) (.cons (.var 2) .nil))) (.cons (.bi .min (.cons (.cst (.int 3)) (.cons (.var 2) .nil))) (.cons (.var 2) .nil))))) .nil))) .nil))))) (.cons (.ret (.bi .tuple (.cons (.lc false (.var 5) (.nm 5) (.val (.idx (.var 1) (.cst (.str "columns")))) (.some (.cmp .In (.var 5) (.var 3))) [4, 5]) .nil))) .nil)))
def f140 : FnDef := { ps := 2, n := 6, body := b140, dfl := [], tr := false }
/-! _law_is_row -/
def b231 : LSs :=
  (.cons (.ifs (.or (.not (.bi .isinstance (.cons (.var 1) (.cons (.cst (.ty .tuple)) .nil)))) (.cmp .NotEq (.bi .len (.cons (.var 1) .nil)) (.bi .len (.cons (.idx (.var 0) (.cst (.str "columns"))) .nil)))) (.cons (.ret (.cst (.bl false))) .nil) .nil) (.cons (.ret (.bi .all (.cons (.lc false (.call 214 (.cons (.var 3) .nil)) (.nm 3) (.val (.var 1)) .no [2, 3]) .nil))) .nil))
def f231 : FnDef := { ps := 2, n := 4, body := b231, dfl := [], tr := false }
/-! _law_is_whole -/
def b250 : LSs :=
  (.cons (.ifs (.or (.not (.bi .isinstance (.cons (.var 1) (.cons (.cst (.ty .tuple)) .nil)))) (.not (.bi .all (.cons (.lc false (.call 231 (.cons (.var 0) (.cons (.var 3) .nil))) (.nm 3) (.val (.var 1)) .no [2, 3]) .nil)))) (.cons (.ret (.cst (.bl false))) .nil) .nil) (.cons (.ret (.bi .all (.cons (.lc false (.cmp .Lt (.var 4) (.var 5)) (.tp (.cons (.nm 4) (.cons (.nm 5) .nil))) (.zip (.cons (.var 1) (.cons (.slc (.var 1) (.some (.cst (.int 1))) .no none) .nil))) .no [2, 4, 5]) .nil))) .nil))
def f250 : FnDef := { ps := 2, n := 6, body := b250, dfl := [], tr := false }
/-! _law_as_rows -/
def b122 : LSs :=
  (.cons (.ret (.lc false (.bii .dict (.zip (.cons (.idx (.var 0) (.cst (.str "columns"))) (.cons (.var 3) .nil)))) (.nm 3) (.val (.var 1)) .no [2, 3])) .nil)
def f122 : FnDef := { ps := 2, n := 4, body := b122, dfl := [], tr := false }
/-! _law_settled -/
def b328 : LSs :=
  (.cons (.asg (.tp (.cons (.nm 2) (.cons (.nm 3) .nil))) (.tup (.cons (.bi .list (.cons (.var 1) .nil)) (.cons (.cst (.bl true)) .nil)))) (.cons (.whl (.var 3) (.cons (.asg (.nm 3) (.cst (.bl false))) (.cons (.fors (.tp (.cons (.nm 4) (.cons (.nm 5) (.cons (.nm 6) .nil)))) (.val (.call 84 (.cons (.var 0) .nil))) (.cons (.ifs (.and (.bi .all (.cons (.lc false (.cmp .In (.var 8) (.var 2)) (.nm 8) (.val (.var 6)) .no [7, 8]) .nil)) (.not (.bi .all (.cons (.lc false (.cmp .In (.var 8) (.var 2)) (.nm 8) (.val (.var 5)) .no [7, 8]) .nil)))) (.cons (.asg (.nm 2) (.bin .Add (.var 2) (.lc false (.var 8) (.nm 8) (.val (.var 5)) (.some (.cmp .NotIn (.var 8) (.var 2))) [7, 8]))) (.cons (.asg (.nm 3) (.cst (.bl true))) .nil)) .nil) .nil)) .nil))) (.cons (.ret (.bi .tuple (.cons (.lc false (.var 9) (.nm 9) (.val (.idx (.var 0) (.cst (.str "columns")))) (.some (.cmp .In (.var 9) (.var 2))) [7, 9]) .nil))) .nil)))
def f328 : FnDef := { ps := 2, n := 10, body := b328, dfl := [], tr := false }
/-! _law_are_ways -/
def b118 : LSs :=
  (.cons (.ifs (.not (.bi .isinstance (.cons (.var 3) (.cons (.cst (.ty .tuple)) .nil)))) (.cons (.ret (.cst (.bl false))) .nil) .nil) (.cons (.asg (.nm 4) (.bi .list (.cons (.var 1) .nil))) (.cons (.fors (.nm 5) (.val (.var 3)) (.cons (.ifs (.or (.not (.bi .isinstance (.cons (.var 5) (.cons (.cst (.ty .tuple)) .nil)))) (.or (.cmp .NotEq (.bi .len (.cons (.var 5) .nil)) (.cst (.int 2))) (.not (.bi .isinstance (.cons (.idx (.var 5) (.cst (.int 0))) (.cons (.cst (.ty .str)) .nil)))))) (.cons (.ret (.cst (.bl false))) .nil) .nil) (.cons (.asg (.nm 6) (.lc false (.var 9) (.tp (.cons (.nm 8) (.cons (.nm 9) (.cons (.nm 10) .nil)))) (.val (.call 84 (.cons (.var 0) .nil))) (.some (.and (.cmp .Eq (.var 8) (.idx (.var 5) (.cst (.int 0)))) (.cmp .Eq (.bi .repr (.cons (.var 10) .nil)) (.bi .repr (.cons (.idx (.var 5) (.cst (.int 1))) .nil))))) [7, 8, 9, 10])) (.cons (.ifs (.or (.cmp .Eq (.var 6) (.lst false .nil)) (.not (.bi .all (.cons (.lc false (.cmp .In (.var 11) (.var 4)) (.nm 11) (.val (.idx (.var 5) (.cst (.int 1)))) .no [7, 11]) .nil)))) (.cons (.ret (.cst (.bl false))) .nil) .nil) (.cons (.asg (.nm 4) (.bin .Add (.var 4) (.bi .list (.cons (.idx (.var 6) (.cst (.int 0))) .nil)))) .nil))))) (.cons (.ret (.bi .all (.cons (.lc false (.cmp .In (.var 11) (.var 4)) (.nm 11) (.val (.var 2)) .no [7, 11]) .nil))) .nil))))
def f118 : FnDef := { ps := 4, n := 12, body := b118, dfl := [], tr := false }
/-! _law_is_settling -/
def b234 : LSs :=
  (.cons (.ifs (.or (.not (.bi .isinstance (.cons (.var 3) (.cons (.cst (.ty .tuple)) .nil)))) (.or (.cmp .NotEq (.bi .len (.cons (.var 3) .nil)) (.cst (.int 2))) (.not (.bi .isinstance (.cons (.idx (.var 3) (.cst (.int 0))) (.cons (.cst (.ty .str)) .nil)))))) (.cons (.ret (.cst (.bl false))) .nil) .nil) (.cons (.ifs (.cmp .Eq (.idx (.var 3) (.cst (.int 0))) (.cst (.str "yes"))) (.cons (.ret (.call 118 (.cons (.var 0) (.cons (.var 1) (.cons (.var 2) (.cons (.idx (.var 3) (.cst (.int 1))) .nil)))))) .nil) .nil) (.cons (.ifs (.or (.cmp .NotEq (.idx (.var 3) (.cst (.int 0))) (.cst (.str "no"))) (.or (.not (.call 250 (.cons (.var 0) (.cons (.idx (.var 3) (.cst (.int 1))) .nil)))) (.cmp .NotEq (.bi .len (.cons (.idx (.var 3) (.cst (.int 1))) .nil)) (.cst (.int 2))))) (.cons (.ret (.cst (.bl false))) .nil) .nil) (.cons (.asg (.nm 4) (.call 122 (.cons (.var 0) (.cons (.idx (.var 3) (.cst (.int 1))) .nil)))) (.cons (.asg (.nm 5) (.lc false (.var 7) (.nm 7) (.val (.idx (.var 0) (.cst (.str "columns")))) (.some (.cmp .Eq (.idx (.idx (.var 4) (.cst (.int 0))) (.var 7)) (.idx (.idx (.var 4) (.cst (.int 1))) (.var 7)))) [6, 7])) (.cons (.ifs (.or (.not (.call 255 (.cons (.var 0) (.cons (.var 4) .nil)))) (.not (.bi .all (.cons (.lc false (.cmp .In (.var 7) (.var 5)) (.nm 7) (.val (.var 1)) .no [6, 7]) .nil)))) (.cons (.ret (.cst (.bl false))) .nil) .nil) (.cons (.ret (.not (.bi .all (.cons (.lc false (.cmp .In (.var 7) (.var 5)) (.nm 7) (.val (.var 2)) .no [6, 7]) .nil)))) .nil)))))))
def f234 : FnDef := { ps := 4, n := 8, body := b234, dfl := [], tr := false }
/-! _law_right -/
def b323 : LSs :=
  (.cons (.asg (.nm 1) (.call 271 (.cons (.var 0) (.cons (.cst (.int 6)) (.cons (.cst (.int 5)) .nil))))) (.cons (.asg (.nm 2) (.new 31 (.cons (.call 349 (.cons (.var 1) .nil)) .nil))) (.cons (.fors (.nm 3) (.rng (.cons (.cst (.int 6)) .nil)) (.cons (.asg (.tp (.cons (.nm 4) (.cons (.nm 5) .nil))) (.tup (.cons (.call 140 (.cons (.var 0) (.cons (.var 1) .nil))) (.cons (.call 140 (.cons (.var 0) (.cons (.var 1) .nil))) .nil)))) (.cons (.asg (.nm 6) (.call 328 (.cons (.var 1) (.cons (.var 4) .nil)))) (.cons (.ifs (.cmp .NotEq (.bi .repr (.cons (.call 477 (.cons (.var 2) (.cons (.var 4) .nil))) .nil)) (.bi .repr (.cons (.var 6) .nil))) (.cons (.ret (.cst (.bl false))) .nil) .nil) (.cons (.fors (.nm 7) (.val (.tup (.cons (.var 5) (.cons (.var 6) (.cons (.idx (.var 1) (.cst (.str "columns"))) (.cons (.var 4) .nil)))))) (.cons (.asg (.nm 8) (.call 478 (.cons (.var 2) (.cons (.var 4) (.cons (.var 7) .nil))))) (.cons (.ifs (.cmp .NotEq (.idx (.var 8) (.cst (.int 0))) (.ite (.bi .all (.cons (.lc false (.cmp .In (.var 10) (.var 6)) (.nm 10) (.val (.var 7)) .no [9, 10]) .nil)) (.cst (.str "yes")) (.cst (.str "no")))) (.cons (.ret (.cst (.bl false))) .nil) .nil) (.cons (.ifs (.not (.call 234 (.cons (.var 1) (.cons (.var 4) (.cons (.var 7) (.cons (.var 8) .nil)))))) (.cons (.ret (.cst (.bl false))) .nil) .nil) (.cons (.ifs (.cmp .IsNot (.call 487 (.cons (.var 2) (.cons (.var 4) (.cons (.var 7) (.cons (.var 8) .nil))))) (.cst (.bl true))) (.cons (.ret (.cst (.bl false))) .nil) .nil) .nil))))) .nil))))) (.cons (.ret (.cst (.bl true))) .nil))))
def f323 : FnDef := { ps := 1, n := 11, body := b323, dfl := [], tr := false }
/-! law -/
def b451 : LSs :=
  (.cons (.fors (.nm 1) (.val (.call 132 (.cons (.var 0) (.cons (.cst (.int 6)) .nil)))) (.cons (.asg (.nm 2) (.call 317 (.cons (.var 0) (.cons (.var 1) .nil)))) (.cons (.ifs (.not (.bi .all (.cons (.lc false (.call 323 (.cons (.var 2) .nil)) (.nm 4) (.rng (.cons (.cst (.int 3)) .nil)) .no [3, 4]) .nil))) (.cons (.ret (.cst (.bl false))) .nil) .nil) .nil))) (.cons (.ret (.cst (.bl true))) .nil))
def f451 : FnDef := { ps := 1, n := 5, body := b451, dfl := [], tr := false }
/-! Plan.__init__ -/
def b47 : LSs :=
  (.cons (.ifs (.not (.bi .isinstance (.cons (.var 1) (.cons (.cst (.ty .str)) .nil)))) (.cons .nev .nil) .nil) (.cons (.asa (.var 0) 64 (.var 1)) (.cons (.asa (.var 0) 54 (.tup .nil)) (.cons (.asa (.var 0) 58 (.dct true .nil .nil)) (.cons (.asg (.nm 2) (.mth (.var 1) (some .split) (some 77) (.cons (.cst (.str "\n")) .nil))) (.cons (.fors (.tp (.cons (.nm 3) (.cons (.nm 4) .nil))) (.enm (.var 2)) (.cons (.asg (.nm 5) (.mth (.var 4) (some .split) (some 77) (.cons (.cst (.str " ")) .nil))) (.cons (.ifs (.not (.ite (.cmp .Eq (.var 3) (.cst (.int 0))) (.mth (.var 0) none (some 35) (.cons (.var 5) .nil)) (.mth (.var 0) none (some 34) (.cons (.var 5) .nil)))) (.cons .nev .nil) .nil) .nil))) (.cons (.ifs (.cmp .Eq (.atr (.var 0) 58) (.dct false .nil .nil)) (.cons .nev .nil) .nil) .nil)))))))
def f47 : FnDef := { ps := 2, n := 6, body := b47, dfl := [], tr := false }
/-! Plan.is_head -/
def b53 : LSs :=
  (.cons (.asg (.nm 2) (.slc (.var 1) (.some (.cst (.int 1))) .no none)) (.cons (.ifs (.or (.cmp .NotEq (.idx (.var 1) (.cst (.int 0))) (.cst (.str "columns"))) (.not (.chn .LtE .LtE (.cst (.int 2)) (.bi .len (.cons (.var 2) .nil)) (.cst (.int 6))))) (.cons (.ret (.cst (.bl false))) .nil) .nil) (.cons (.asa (.var 0) 54 (.bi .tuple (.cons (.var 2) .nil))) (.cons (.ret (.and (.bi .all (.cons (.lc false (.call 433 (.cons (.var 4) .nil)) (.nm 4) (.val (.var 2)) .no [3, 4]) .nil)) (.call 387 (.cons (.var 2) .nil)))) .nil))))
def f53 : FnDef := { ps := 2, n := 5, body := b53, dfl := [], tr := false }
/-! Plan.is_further -/
def b52 : LSs :=
  (.cons (.ifs (.cmp .Eq (.idx (.var 1) (.cst (.int 0))) (.cst (.str "list"))) (.cons (.ret (.mth (.var 0) none (some 36) (.cons (.var 1) .nil))) .nil) .nil) (.cons (.ifs (.or (.cmp .NotEq (.idx (.var 1) (.cst (.int 0))) (.cst (.str "key"))) (.cmp .Eq (.atr (.var 0) 58) (.dct false .nil .nil))) (.cons (.ret (.cst (.bl false))) .nil) .nil) (.cons (.asg (.tp (.cons (.nm 2) (.cons (.nm 3) .nil))) (.idx (.atr (.var 0) 58) (.idx (.atr (.var 0) 49) (.neg (.cst (.int 1)))))) (.cons (.ifs (.or (.cmp .Eq (.bi .len (.cons (.var 3) .nil)) (.cst (.int 2))) (.not (.call 391 (.cons (.var 2) (.cons (.var 3) (.cons (.bi .tuple (.cons (.slc (.var 1) (.some (.cst (.int 1))) .no none) .nil)) .nil)))))) (.cons (.ret (.cst (.bl false))) .nil) .nil) (.cons (.exp (.mth (.var 3) (some .append) (some 13) (.cons (.bi .tuple (.cons (.slc (.var 1) (.some (.cst (.int 1))) .no none) .nil)) .nil))) (.cons (.ret (.cst (.bl true))) .nil))))))
def f52 : FnDef := { ps := 2, n := 4, body := b52, dfl := [], tr := false }
/-! Plan.is_list -/
def b54 : LSs :=
  (.cons (.ifs (.or (.cmp .LtE (.bi .len (.cons (.var 1) .nil)) (.cst (.int 2))) (.or (.not (.call 433 (.cons (.idx (.var 1) (.cst (.int 1))) .nil))) (.cmp .In (.idx (.var 1) (.cst (.int 1))) (.atr (.var 0) 58)))) (.cons (.ret (.cst (.bl false))) .nil) .nil) (.cons (.ifs (.or (.cmp .Eq (.bi .len (.cons (.atr (.var 0) 58) .nil)) (.cst (.int 5))) (.not (.call 384 (.cons (.slc (.var 1) (.some (.cst (.int 2))) .no none) (.cons (.atr (.var 0) 54) (.cons (.cst (.int 4)) .nil)))))) (.cons (.ret (.cst (.bl false))) .nil) .nil) (.cons (.asi (.atr (.var 0) 58) (.idx (.var 1) (.cst (.int 1))) (.tup (.cons (.bi .tuple (.cons (.slc (.var 1) (.some (.cst (.int 2))) .no none) .nil)) (.cons (.lst true .nil) .nil)))) (.cons (.ret (.cst (.bl true))) .nil))))
def f54 : FnDef := { ps := 2, n := 2, body := b54, dfl := [], tr := false }
/-! Plan.text -/
def b59 : LSs :=
  (.cons (.ret (.atr (.var 0) 64)) .nil)
def f59 : FnDef := { ps := 1, n := 1, body := b59, dfl := [], tr := false }
/-! Plan.columns -/
def b51 : LSs :=
  (.cons (.ret (.atr (.var 0) 54)) .nil)
def f51 : FnDef := { ps := 1, n := 1, body := b51, dfl := [], tr := false }
/-! Plan.lists -/
def b58 : LSs :=
  (.cons (.ret (.bi .tuple (.cons (.atr (.var 0) 58) .nil))) .nil)
def f58 : FnDef := { ps := 1, n := 1, body := b58, dfl := [], tr := false }
/-! Plan.__getitem__ -/
def b46 : LSs :=
  (.cons (.exp (.mth (.var 0) none (some 17) (.cons (.var 1) .nil))) (.cons (.ret (.idx (.idx (.atr (.var 0) 58) (.var 1)) (.cst (.int 0)))) .nil))
def f46 : FnDef := { ps := 2, n := 2, body := b46, dfl := [], tr := false }
/-! Plan.keys_of -/
def b56 : LSs :=
  (.cons (.exp (.mth (.var 0) none (some 17) (.cons (.var 1) .nil))) (.cons (.ret (.bi .tuple (.cons (.idx (.idx (.atr (.var 0) 58) (.var 1)) (.cst (.int 1))) .nil))) .nil))
def f56 : FnDef := { ps := 2, n := 2, body := b56, dfl := [], tr := false }
/-! Plan.__iter__ -/
def b48 : LSs :=
  (.cons .nev .nil)
def f48 : FnDef := { ps := 1, n := 1, body := b48, dfl := [], tr := false }
/-! Plan.__len__ -/
def b49 : LSs :=
  (.cons (.ret (.bi .len (.cons (.atr (.var 0) 58) .nil))) .nil)
def f49 : FnDef := { ps := 1, n := 1, body := b49, dfl := [], tr := false }
/-! Plan.__contains__ -/
def b44 : LSs :=
  (.cons (.ret (.call 447 (.cons (.var 1) (.cons (.atr (.var 0) 49) .nil)))) .nil)
def f44 : FnDef := { ps := 2, n := 2, body := b44, dfl := [], tr := false }
/-! Plan.__eq__ -/
def b45 : LSs :=
  (.cons (.ret (.and (.bi .isinstance (.cons (.var 1) (.cons (.cst (.cls 31)) .nil))) (.cmp .Eq (.atr (.var 0) 64) (.atr (.var 1) 64)))) .nil)
def f45 : FnDef := { ps := 2, n := 2, body := b45, dfl := [], tr := false }
/-! Plan.check_list -/
def b50 : LSs :=
  (.cons (.ifs (.cmp .NotIn (.var 1) (.var 0)) (.cons .nev .nil) .nil) .nil)
def f50 : FnDef := { ps := 2, n := 2, body := b50, dfl := [], tr := false }
/-! Plan.line_of -/
def b57 : LSs :=
  (.cons (.exp .nev) .nil)
def f57 : FnDef := { ps := 2, n := 2, body := b57, dfl := [], tr := false }
/-! Plan.keyed -/
def b55 : LSs :=
  (.cons (.exp .nev) .nil)
def f55 : FnDef := { ps := 3, n := 3, body := b55, dfl := [], tr := false }
/-! Plan.without -/
def b60 : LSs :=
  (.cons (.exp .nev) .nil)
def f60 : FnDef := { ps := 2, n := 2, body := b60, dfl := [], tr := false }
end PB
end

section
set_option Elab.async false
set_option linter.all false
set_option maxRecDepth 100000
set_option maxHeartbeats 1000000
/-! Z, plain: values of texts, calls. -/
namespace Z.M
open PySem PySem.W
abbrev ss (l : List Str) : List D := l.map D.str
@[simp] theorem lim_eq : lim = 16777216 := rfl
section
variable {T : Tab} {Φ : Fn} {W n : Nat} {S S' : List O}
theorem phi_rt {f : Nat} {F : FnDef} {ds : List D} {d : D} (hF : T.fns.lookup f = some F) (hl : ds.length = F.ps) (ht : F.tr = false)
    (hb : exs T (Phi T W n) W F.body (ds.map some ++ List.replicate (F.n - ds.length) none) S = .ok (.rt d) S') : Phi T W (n + 1) f ds S = .ok d S' := by
  unfold Phi
  rw [hF]
  dsimp only
  rw [if_pos ⟨by omega, by omega⟩]
  have e : F.dfl.drop (F.dfl.length - (F.ps - ds.length)) = [] := by rw [List.drop_eq_nil_iff]; omega
  rw [e, List.append_nil, hb]
  dsimp only
  rw [ht]
  rfl
theorem phi_nx {f : Nat} {F : FnDef} {ds : List D} {σ : St} (hF : T.fns.lookup f = some F) (hl : ds.length = F.ps) (ht : F.tr = false)
    (hb : exs T (Phi T W n) W F.body (ds.map some ++ List.replicate (F.n - ds.length) none) S = .ok (.nx σ) S') : Phi T W (n + 1) f ds S = .ok .non S' := by
  unfold Phi
  rw [hF]
  dsimp only
  rw [if_pos ⟨by omega, by omega⟩]
  have e : F.dfl.drop (F.dfl.length - (F.ps - ds.length)) = [] := by rw [List.drop_eq_nil_iff]; omega
  rw [e, List.append_nil, hb]
  dsimp only
  rw [ht]
  rfl
theorem phi_rtT {f : Nat} {F : FnDef} {ds : List D} {d : D} (hF : T.fns.lookup f = some F) (hl : ds.length = F.ps) (ht : F.tr = true)
    (hb : exs T (Phi T W n) W F.body (ds.map some ++ List.replicate (F.n - ds.length) none) S = .ok (.rt d) S') : Phi T W (n + 1) f ds S = fin S d S' := by
  unfold Phi
  rw [hF]
  dsimp only
  rw [if_pos ⟨by omega, by omega⟩]
  have e : F.dfl.drop (F.dfl.length - (F.ps - ds.length)) = [] := by rw [List.drop_eq_nil_iff]; omega
  rw [e, List.append_nil, hb]
  dsimp only
  rw [ht]
  rfl
theorem phi_dfT {f : Nat} {F : FnDef} {ds es : List D} {d : D} (hF : T.fns.lookup f = some F) (hl : ds.length ≤ F.ps ∧ F.ps ≤ ds.length + F.dfl.length) (ht : F.tr = true) (he : ds ++ F.dfl.drop (F.dfl.length - (F.ps - ds.length)) = es)
    (hb : exs T (Phi T W n) W F.body (es.map some ++ List.replicate (F.n - es.length) none) S = .ok (.rt d) S') : Phi T W (n + 1) f ds S = fin S d S' := by
  unfold Phi
  rw [hF]
  dsimp only
  rw [if_pos hl, he, hb]
  dsimp only
  rw [ht]
  rfl
/-! looks -/
@[simp] theorem items_tup (ds : List D) : items? S (.tup ds) = some ds := rfl
@[simp] theorem items_lst (ds : List D) : items? S (.lst ds) = some ds := rfl
@[simp] theorem items_scr (ds : List D) : items? S (.scr ds) = some ds := rfl
@[simp] theorem items_str (s : Str) : items? S (.str s) = none := rfl
@[simp] theorem items_dct (ks vs : List D) : items? S (.dct ks vs) = none := rfl
@[simp] theorem items_ins (c : Nat) (fs : List Nat) (vs : List D) : items? S (.ins c fs vs) = none := rfl
@[simp] theorem walk_tup (ds : List D) : walk? S (.tup ds) = some ds := rfl
@[simp] theorem walk_lst (ds : List D) : walk? S (.lst ds) = some ds := rfl
@[simp] theorem walk_scr (ds : List D) : walk? S (.scr ds) = some ds := rfl
@[simp] theorem walk_str (s : Str) : walk? S (.str s) = some (chars s) := rfl
theorem items_ref {i : Nat} {ds : List D} (h : S[i]? = some (.lst ds)) : items? S (.ref i) = some ds := by simp only [items?, h]
theorem walk_ref {i : Nat} {ds : List D} (h : S[i]? = some (.lst ds)) : walk? S (.ref i) = some ds := by simp only [walk?, items?, h]
@[simp] theorem dict_dct (ks vs : List D) : dict? S (.dct ks vs) = some (ks, vs) := rfl
@[simp] theorem dict_tup (ds : List D) : dict? S (.tup ds) = none := rfl
theorem dict_ref {i : Nat} {ks vs : List D} (h : S[i]? = some (.dct ks vs)) : dict? S (.ref i) = some (ks, vs) := by simp only [dict?, h]
theorem items_refD {i : Nat} {ks vs : List D} (h : S[i]? = some (.dct ks vs)) : items? S (.ref i) = none := by simp only [items?, h]
@[simp] theorem ins_ins (c : Nat) (fs : List Nat) (vs : List D) : ins? S (.ins c fs vs) = some (c, fs, vs) := rfl
@[simp] theorem ins_tup (ds : List D) : ins? S (.tup ds) = none := rfl
@[simp] theorem ins_lst (ds : List D) : ins? S (.lst ds) = none := rfl
@[simp] theorem ins_str (s : Str) : ins? S (.str s) = none := rfl
@[simp] theorem ins_dct (ks vs : List D) : ins? S (.dct ks vs) = none := rfl
theorem ins_ref {i c : Nat} {fs : List Nat} {vs : List D} (h : S[i]? = some (.ins c fs vs)) : ins? S (.ref i) = some (c, fs, vs) := by simp only [ins?, h]
theorem ins_refL {i : Nat} {ds : List D} (h : S[i]? = some (.lst ds)) : ins? S (.ref i) = none := by simp only [ins?, h]
theorem ins_refD {i : Nat} {ks vs : List D} (h : S[i]? = some (.dct ks vs)) : ins? S (.ref i) = none := by simp only [ins?, h]
@[simp] theorem look_tup (ds : List D) : look S (.tup ds) = .tup ds := rfl
@[simp] theorem look_lst (ds : List D) : look S (.lst ds) = .lst ds := rfl
@[simp] theorem look_str (s : Str) : look S (.str s) = .str s := rfl
@[simp] theorem look_int (i : Int) : look S (.int i) = .int i := rfl
@[simp] theorem look_dct (ks vs : List D) : look S (.dct ks vs) = .dct ks vs := rfl
@[simp] theorem look_ins (c : Nat) (fs : List Nat) (vs : List D) : look S (.ins c fs vs) = .ins c fs vs := rfl
theorem look_ref {i : Nat} {ds : List D} (h : S[i]? = some (.lst ds)) : look S (.ref i) = .lst ds := by simp only [look, h]
theorem look_refD {i : Nat} {ks vs : List D} (h : S[i]? = some (.dct ks vs)) : look S (.ref i) = .dct ks vs := by simp only [look, h]
@[simp] theorem refs_tup (ds : List D) : (D.tup ds).refs = [] := rfl
@[simp] theorem refs_lst (ds : List D) : (D.lst ds).refs = [] := rfl
@[simp] theorem refs_str (s : Str) : (D.str s).refs = [] := rfl
@[simp] theorem refs_scr (ds : List D) : (D.scr ds).refs = [] := rfl
@[simp] theorem refs_ref (i : Nat) : (D.ref i).refs = [i] := rfl
@[simp] theorem bmOf_ref (b : Bm) (i : Nat) : bmOf b (.ref i) = b := by cases b <;> rfl
@[simp] theorem bmOf_str (b : Bm) (t : Str) : bmOf b (.str t) = b := by cases b <;> rfl
@[simp] theorem bmOf_tup (b : Bm) (ds : List D) : bmOf b (.tup ds) = b := by cases b <;> rfl
@[simp] theorem bmOf_dct (b : Bm) (ks vs : List D) : bmOf b (.dct ks vs) = b := by cases b <;> rfl
/-! values of texts -/
theorem pys_ss (l : List Str) : pys (ss l) = some (l.map PyData.str) := by
  induction l with
  | nil => rfl
  | cons x l ih =>
    show pys (.str x :: ss l) = _
    unfold pys
    rw [ih]
    rfl
@[simp] theorem deps_ss (l : List Str) : deps (ss l) = 0 := by
  induction l with
  | nil => rfl
  | cons x l ih =>
    show deps (.str x :: ss l) = 0
    unfold deps
    rw [ih]
    rfl
@[simp] theorem notScr_ss (l : List Str) : notScrs (ss l) = true := by
  induction l with
  | nil => rfl
  | cons x l ih =>
    show notScrs (.str x :: ss l) = true
    unfold notScrs
    rw [ih]
    rfl
@[simp] theorem eqv_str (x y : Str) : (D.str x).eqv (.str y) = decide (x = y) := rfl
theorem any_eqv (x : Str) (l : List Str) : (ss l).any (fun d => d.eqv (.str x)) = decide (x ∈ l) := by
  induction l with
  | nil => rfl
  | cons y l ih =>
    show ((D.str y).eqv (.str x) || (ss l).any fun d => d.eqv (.str x)) = _
    rw [ih, eqv_str]
    by_cases h : y = x
    · simp [h]
    · have h' : ¬ x = y := fun e => h e.symm
      simp [h, h']
theorem keyS_ss (l : List Str) : (ss l).all keyS = true := by
  rw [List.all_eq_true]
  intro d hd
  obtain ⟨x, _, rfl⟩ := List.mem_map.mp hd
  rfl
theorem inD_items {y : D} {x : Str} {l : List Str} (h : items? S y = some (ss l)) : inD T Φ (.str x) y S = .ok (.bl (decide (x ∈ l))) S := by
  unfold inD
  cases y with
  | str z => cases h
  | _ =>
    all_goals
      dsimp only
      rw [h]
      dsimp only
      rw [if_pos ⟨rfl, by rw [pys_ss]; rfl, by simp [flat2, D.dep], rfl⟩, any_eqv]
theorem dget_some (ks : List Str) (vs : List D) (x : Str) (h : ks.length = vs.length) : (dget (ss ks) vs (.str x)).isSome = decide (x ∈ ks) := by
  induction ks generalizing vs with
  | nil => cases vs <;> rfl
  | cons k ks ih =>
    cases vs with
    | nil => cases h
    | cons v vs =>
      show (if (D.str k).eqv (.str x) = true then some v else dget (ss ks) vs (.str x)).isSome = _
      rw [eqv_str]
      by_cases e : k = x
      · simp [e]
      · have e' : ¬ x = k := fun q => e q.symm
        rw [if_neg (by simpa using e), ih vs (by simpa using h)]
        simp [e']
theorem okKey_ss (l : List Str) (x : Str) : okKey (ss l) (.str x) = true := by
  unfold okKey
  rw [keyS_ss]
  rfl
theorem inD_dict {y : D} {x : Str} {l : List Str} {vs : List D} (h0 : items? S y = none) (h : dict? S y = some (ss l, vs)) (hl : l.length = vs.length) : inD T Φ (.str x) y S = .ok (.bl (decide (x ∈ l))) S := by
  unfold inD
  cases y with
  | str z => cases h
  | _ =>
    all_goals
      dsimp only
      rw [h0]
      dsimp only
      rw [h]
      dsimp only
      rw [if_pos (okKey_ss l x), dget_some l vs x hl]
@[simp] theorem cmp_in (x y : D) : cmpD T Φ .In x y S = (inD T Φ x y S).bind (nbl false) := rfl
@[simp] theorem cmp_nin (x y : D) : cmpD T Φ .NotIn x y S = (inD T Φ x y S).bind (nbl true) := rfl
@[simp] theorem cmp_ltI (i j : Int) : cmpD T Φ .Lt (.int i) (.int j) S = .ok (.bl (decide (i < j))) S := (rfl)
@[simp] theorem cmp_leI (i j : Int) : cmpD T Φ .LtE (.int i) (.int j) S = .ok (.bl (decide (i ≤ j))) S := (rfl)
@[simp] theorem cmp_gtI (i j : Int) : cmpD T Φ .Gt (.int i) (.int j) S = .ok (.bl (decide (j < i))) S := (rfl)
@[simp] theorem cmp_geI (i j : Int) : cmpD T Φ .GtE (.int i) (.int j) S = .ok (.bl (decide (j ≤ i))) S := (rfl)
@[simp] theorem eqI (i j : Int) : eqD (.int i) (.int j) S = .ok (.bl (decide (i = j))) S := (rfl)
@[simp] theorem eqS (x y : Str) : eqD (.str x) (.str y) S = .ok (.bl (decide (x = y))) S := rfl
@[simp] theorem cmp_eqI (i j : Int) : cmpD T Φ .Eq (.int i) (.int j) S = .ok (.bl (decide (i = j))) S := by
  show (eqD (.int i) (.int j) S).bind (nbl false) = _
  simp
@[simp] theorem cmp_eqS (x y : Str) : cmpD T Φ .Eq (.str x) (.str y) S = .ok (.bl (decide (x = y))) S := by
  show (eqD (.str x) (.str y) S).bind (nbl false) = _
  simp
@[simp] theorem cmp_neI (i j : Int) : cmpD T Φ .NotEq (.int i) (.int j) S = .ok (.bl (!decide (i = j))) S := by
  show (eqD (.int i) (.int j) S).bind (nbl true) = _
  simp
@[simp] theorem cmp_neS (x y : Str) : cmpD T Φ .NotEq (.str x) (.str y) S = .ok (.bl (!decide (x = y))) S := by
  show (eqD (.str x) (.str y) S).bind (nbl true) = _
  simp
/-! built-in functions -/
@[simp] theorem len_str (s : Str) : biD T Φ .len [.str s] S = if s.length ≤ lim then .ok (.int s.length) S else .bad := rfl
@[simp] theorem len_tup (ds : List D) : biD T Φ .len [.tup ds] S = .ok (.int ds.length) S := rfl
@[simp] theorem len_lst (ds : List D) : biD T Φ .len [.lst ds] S = .ok (.int ds.length) S := rfl
theorem len_ref {i : Nat} {ds : List D} (h : S[i]? = some (.lst ds)) : biD T Φ .len [.ref i] S = .ok (.int ds.length) S := by simp only [biD, items?, h]
theorem len_dct (l : List Str) (vs : List D) : biD T Φ .len [.dct (ss l) vs] S = .ok (.int l.length) S := by
  simp only [biD, items?, dict?]
  rw [if_pos (keyS_ss l), List.length_map]
theorem len_refD {i : Nat} {l : List Str} {vs : List D} (h : S[i]? = some (.dct (ss l) vs)) : biD T Φ .len [.ref i] S = .ok (.int l.length) S := by
  simp only [biD, items?, h, dict?]
  rw [if_pos (keyS_ss l), List.length_map]
theorem all_bl {α : Type} (xs : List α) (p : α → Bool) : biD T Φ .all [.lst (xs.map fun x => .bl (p x))] S = .ok (.bl (xs.all p)) S := by
  simp only [biD, items_lst]
  rw [if_pos (by rw [List.all_map]; exact List.all_eq_true.mpr fun _ _ => rfl), List.all_map]
  rfl
theorem any_bl {α : Type} (xs : List α) (p : α → Bool) : biD T Φ .any [.lst (xs.map fun x => .bl (p x))] S = .ok (.bl (xs.any p)) S := by
  simp only [biD, items_lst]
  rw [if_pos (by rw [List.all_map]; exact List.all_eq_true.mpr fun _ _ => rfl), List.any_map]
  rfl
@[simp] theorem isin_def (x t : D) : biD T Φ .isinstance [x, t] S = isinst T S x t := rfl
@[simp] theorem isin_str (s : Str) : isinst T S (.str s) (.ty .str) = .ok (.bl true) S := rfl
@[simp] theorem isin_tup (ds : List D) : isinst T S (.tup ds) (.ty .tuple) = .ok (.bl true) S := rfl
@[simp] theorem tup_lst (ds : List D) : biD T Φ .tuple [.lst ds] S = .ok (.tup ds) S := rfl
@[simp] theorem tup_tup (ds : List D) : biD T Φ .tuple [.tup ds] S = .ok (.tup ds) S := rfl
theorem tup_ref {i : Nat} {ds : List D} (h : S[i]? = some (.lst ds)) : biD T Φ .tuple [.ref i] S = .ok (.tup ds) S := by simp only [biD, seqs?, items?, h]
theorem tup_dct (l : List Str) (vs : List D) : biD T Φ .tuple [.dct (ss l) vs] S = .ok (.tup (ss l)) S := by
  simp only [biD, seqs?, items?, dict?]
  rw [if_pos (keyS_ss l)]
theorem tup_refD {i : Nat} {l : List Str} {vs : List D} (h : S[i]? = some (.dct (ss l) vs)) : biD T Φ .tuple [.ref i] S = .ok (.tup (ss l)) S := by
  simp only [biD, seqs?, items?, h, dict?]
  rw [if_pos (keyS_ss l)]
@[simp] theorem list_tup (ds : List D) : biD T Φ .list [.tup ds] S = .ok (.lst ds) S := rfl
@[simp] theorem list_lst (ds : List D) : biD T Φ .list [.lst ds] S = .ok (.lst ds) S := rfl
@[simp] theorem listM_tup (ds : List D) : biD T Φ .listM [.tup ds] S = .ok (.ref S.length) (S ++ [.lst ds]) := rfl
@[simp] theorem listM_lst (ds : List D) : biD T Φ .listM [.lst ds] S = .ok (.ref S.length) (S ++ [.lst ds]) := rfl
@[simp] theorem min_int (i j : Int) : biD T Φ .min [.int i, .int j] S = .ok (.int (if j < i then j else i)) S := (rfl)
@[simp] theorem max_int (i j : Int) : biD T Φ .max [.int i, .int j] S = .ok (.int (if j > i then j else i)) S := (rfl)
@[simp] theorem int_int (i : Int) : biD T Φ .int [.int i] S = .ok (.int i) S := (rfl)
@[simp] theorem abs_int (i : Int) : biD T Φ .abs [.int i] S = .ok (.int (if i < 0 then -i else i)) S := (rfl)
@[simp] theorem int_bl (b : Bool) : biD T Φ .int [.bl b] S = .ok (.int (if b then 1 else 0)) S := (rfl)
end
/-! ### words -/
def isNm (s : Str) : Bool := decide (1 ≤ s.length) && decide (s.length ≤ 8) && s.cps.toList.all fun c => decide (97 ≤ c) && decide (c ≤ 122)
theorem letters_in : ∀ i : Fin 26, (!(Builtin.Str.occurrences ("abcdefghijklmnopqrstuvwxyz" : Str) ⟨#[97 + i.val]⟩ 0 ("abcdefghijklmnopqrstuvwxyz" : Str).length 1).isEmpty) = true := by decide +kernel
theorem letter_in {T : Tab} {Φ : Fn} {S : List O} {c : Nat} (h1 : 97 ≤ c) (h2 : c ≤ 122) : inD T Φ (.str ⟨#[c]⟩) (.str "abcdefghijklmnopqrstuvwxyz") S = .ok (.bl true) S := by
  have e := letters_in ⟨c - 97, by omega⟩
  rw [show 97 + (⟨c - 97, by omega⟩ : Fin 26).val = c by simp; omega] at e
  show R.ok (D.bl _) S = _
  rw [e]
theorem is_name_ok {T : Tab} {W n : Nat} {S : List O} (h : T.fns.lookup 433 = some PB.f433) {s : Str} (hs : isNm s = true) : Phi T W (n + 1) 433 [.str s] S = .ok (.bl true) S := by
  refine phi_rt h rfl rfl ?_
  simp only [isNm, Bool.and_eq_true, decide_eq_true_eq, List.all_eq_true] at hs
  obtain ⟨⟨h1, h2⟩, h3⟩ := hs
  have hl : s.length ≤ 16777216 := by omega
  have hi1 : (1 : Int) ≤ s.length := by omega
  have hi2 : (s.length : Int) ≤ 8 := by omega
  simp [PB.f433, PB.b433, hl, hi1, hi2]
  unfold chars
  rw [lcR_map s.cps.toList _ (fun _ => .bl true) ?_ (by rw [lim_eq]; exact hl)]
  · simp [all_bl]
  · intro c hc
    obtain ⟨q1, q2⟩ := h3 c hc
    refine ⟨_, rfl, ?_⟩
    simp [letter_in q1 q2]
end Z.M
end

section
set_option Elab.async false
set_option linter.all false
set_option maxRecDepth 100000
set_option maxHeartbeats 1000000
/-! Z, plain: plans as they are read. -/
namespace Z.M
open PySem PySem.W
structure HasA (T : Tab) : Prop where
  f382 : T.fns.lookup 382 = some PB.f382
  f394 : T.fns.lookup 394 = some PB.f394
/-- what the text has of plans and wholes -/
structure HasP (T : Tab) : Prop where
  f433 : T.fns.lookup 433 = some PB.f433
  f444 : T.fns.lookup 444 = some PB.f444
  f447 : T.fns.lookup 447 = some PB.f447
  f387 : T.fns.lookup 387 = some PB.f387
  f412 : T.fns.lookup 412 = some PB.f412
  f384 : T.fns.lookup 384 = some PB.f384
  f391 : T.fns.lookup 391 = some PB.f391
  f379 : T.fns.lookup 379 = some PB.f379
  f438 : T.fns.lookup 438 = some PB.f438
  f445 : T.fns.lookup 445 = some PB.f445
  f409 : T.fns.lookup 409 = some PB.f409
  f413 : T.fns.lookup 413 = some PB.f413
  f47 : T.fns.lookup 47 = some PB.f47
  f53 : T.fns.lookup 53 = some PB.f53
  f52 : T.fns.lookup 52 = some PB.f52
  f54 : T.fns.lookup 54 = some PB.f54
  f51 : T.fns.lookup 51 = some PB.f51
  f58 : T.fns.lookup 58 = some PB.f58
  f46 : T.fns.lookup 46 = some PB.f46
  f56 : T.fns.lookup 56 = some PB.f56
  f44 : T.fns.lookup 44 = some PB.f44
  f50 : T.fns.lookup 50 = some PB.f50
  c31 : T.cls.lookup 31 = some { init := some 47 }
  inst : T.inst.contains 31 = true
  p18 : T.prop.lookup (31, 18) = some 51
  p49 : T.prop.lookup (31, 49) = some 58
  p64 : T.prop.lookup (31, 64) = none
  p54 : T.prop.lookup (31, 54) = none
  p58 : T.prop.lookup (31, 58) = none
  fl64 : T.flds.contains (31, 64) = true
  fl54 : T.flds.contains (31, 54) = true
  fl58 : T.flds.contains (31, 58) = true
  m35 : T.meth.lookup (31, 35) = some 53
  m34 : T.meth.lookup (31, 34) = some 52
  m36 : T.meth.lookup (31, 36) = some 54
  m46 : T.meth.lookup (31, 46) = some 56
  m17 : T.meth.lookup (31, 17) = some 50
  m5 : T.meth.lookup (31, 5) = some 46
  m1 : T.meth.lookup (31, 1) = some 44
  nmGet : T.nmGet = 5
  nmIn : T.nmIn = 1
structure Lst where
  name : Str
  own : List Str
  keys : List (List Str)
structure Lore where
  cols : List Str
  lists : List Lst
abbrev kD (k : List Str) : D := .tup (ss k)
def Lst.pl (l : Lst) : D := .tup [kD l.own, .lst (l.keys.map kD)]
def Lore.names (L : Lore) : List Str := L.lists.map Lst.name
def planD (txt : Str) (L : Lore) : D := .ins 31 [64, 54, 58] [.str txt, kD L.cols, .dct (ss L.names) (L.lists.map Lst.pl)]
def Lst.ak (l : Lst) : List (Str × List Str × List Str) := l.keys.map fun k => (l.name, l.own, k)
def Lore.ak (L : Lore) : List (Str × List Str × List Str) := L.lists.flatMap Lst.ak
def akD (a : Str × List Str × List Str) : D := .tup [.str a.1, kD a.2.1, kD a.2.2]
section
variable {T : Tab} {Φ : Fn} {W n : Nat} {S S' : List O}
@[simp] theorem ev_neg (a : LE) (σ : St) (i : Int) (h : ev T Φ a σ S = .ok (.int i) S) : ev T Φ (.neg a) σ S = .ok (.int (-i)) S := by
  rw [ev, h]; rfl
theorem atr64 (H : HasP T) {x a b d : D} (h : ins? S x = some (31, [64, 54, 58], [a, b, d])) : atrD T Φ x 64 S = .ok a S := by
  simp only [atrD, h, H.inst, H.p64, H.fl64]
  rfl
theorem atr54 (H : HasP T) {x a b d : D} (h : ins? S x = some (31, [64, 54, 58], [a, b, d])) : atrD T Φ x 54 S = .ok b S := by
  simp only [atrD, h, H.inst, H.p54, H.fl54]
  rfl
theorem atr58 (H : HasP T) {x a b d : D} (h : ins? S x = some (31, [64, 54, 58], [a, b, d])) : atrD T Φ x 58 S = .ok d S := by
  simp only [atrD, h, H.inst, H.p58, H.fl58]
  rfl
theorem columns_ok (H : HasP T) {x a b d : D} (h : ins? S x = some (31, [64, 54, 58], [a, b, d])) : Phi T W (n + 1) 51 [x] S = .ok b S := by
  refine phi_rt H.f51 rfl rfl ?_
  simp [PB.f51, PB.b51, atr54 H h]
theorem atr18 (H : HasP T) {x a b d : D} (h : ins? S x = some (31, [64, 54, 58], [a, b, d])) : atrD T (Phi T W (n + 1)) x 18 S = .ok b S := by
  simp only [atrD, h, H.inst, H.p18, columns_ok H h]
  rfl
theorem lists_ok (H : HasP T) {x a b d : D} {l : List Str} {vs : List D} (h : ins? S x = some (31, [64, 54, 58], [a, b, d])) (hi : items? S d = none) (hd : dict? S d = some (ss l, vs)) : Phi T W (n + 1) 58 [x] S = .ok (.tup (ss l)) S := by
  refine phi_rt H.f58 rfl rfl ?_
  have e : biD T (Phi T W n) .tuple [d] S = .ok (.tup (ss l)) S := by
    have q : seqs? S d = some (ss l) := by
      simp only [seqs?, hi, hd]
      rw [if_pos (keyS_ss l)]
    cases d with
    | tup ds => cases hd
    | _ => simp only [biD, q]
  simp [PB.f58, PB.b58, atr58 H h, e]
theorem atr49 (H : HasP T) {x a b d : D} {l : List Str} {vs : List D} (h : ins? S x = some (31, [64, 54, 58], [a, b, d])) (hi : items? S d = none) (hd : dict? S d = some (ss l, vs)) : atrD T (Phi T W (n + 1)) x 49 S = .ok (.tup (ss l)) S := by
  simp only [atrD, h, H.inst, H.p49, lists_ok H h hi hd]
  rfl
theorem is_tuple_ok (H : HasP T) (ds : List D) (k : Int) : Phi T W (n + 1) 444 [.tup ds, .int k] S = .ok (.bl (decide ((ds.length : Int) = k))) S := by
  refine phi_rt H.f444 rfl rfl ?_
  simp [PB.f444, PB.b444]
theorem is_word_ok (H : HasP T) {x : Str} {y : D} {l : List Str} (h : items? S y = some (ss l)) : Phi T W (n + 1) 447 [.str x, y] S = .ok (.bl (decide (x ∈ l))) S := by
  refine phi_rt H.f447 rfl rfl ?_
  simp [PB.f447, PB.b447, inD_items h]
/-! of a plan that stands -/
variable {t : Str} {L : Lore}
theorem ins_plan : ins? S (planD t L) = some (31, [64, 54, 58], [.str t, kD L.cols, .dct (ss L.names) (L.lists.map Lst.pl)]) := rfl
theorem p_cols (H : HasP T) : atrD T (Phi T W (n + 1)) (planD t L) 18 S = .ok (kD L.cols) S := atr18 H ins_plan
theorem p_lists (H : HasP T) : atrD T (Phi T W (n + 1)) (planD t L) 49 S = .ok (.tup (ss L.names)) S := atr49 H ins_plan rfl rfl
theorem p_own (H : HasP T) : atrD T Φ (planD t L) 58 S = .ok (.dct (ss L.names) (L.lists.map Lst.pl)) S := atr58 H ins_plan
theorem contains_ok (H : HasP T) (x : Str) : Phi T W (n + 2) 44 [planD t L, .str x] S = .ok (.bl (decide (x ∈ L.names))) S := by
  refine phi_rt H.f44 rfl rfl ?_
  simp [PB.f44, PB.b44, p_lists H]
  rw [is_word_ok (l := L.names) H rfl]
  rfl
theorem inD_plan (H : HasP T) (x : Str) : inD T (Phi T W (n + 2)) (.str x) (planD t L) S = .ok (.bl (decide (x ∈ L.names))) S := by
  show ownD T (Phi T W (n + 2)) T.nmIn (planD t L) [.str x] S = _
  simp only [ownD, ins_plan, callM, H.nmIn, H.m1]
  exact contains_ok H x
theorem check_list_ok (H : HasP T) {x : Str} (hx : x ∈ L.names) : Phi T W (n + 3) 50 [planD t L, .str x] S = .ok .non S := by
  refine phi_nx (σ := [some (planD t L), some (.str x)]) H.f50 rfl rfl ?_
  simp [PB.f50, PB.b50, inD_plan H, hx]
theorem m_plan {m f : Nat} (h : T.meth.lookup (31, m) = some f) (h2 : [64, 54, 58].contains m = false) (b : Option Bm) : mtyp T (planD t L) b (some m) S = some (.own f) := by
  simp only [mtyp, ins_plan, h]
  rw [if_neg (by rw [h2]; decide)]
theorem dget_names (xs : List Lst) (hn : (xs.map Lst.name).Nodup) {l : Lst} (hl : l ∈ xs) (f : Lst → D) : dget (ss (xs.map Lst.name)) (xs.map f) (.str l.name) = some (f l) := by
  induction xs with
  | nil => cases hl
  | cons y ys ih =>
    rw [List.map_cons, List.nodup_cons] at hn
    show (if (D.str y.name).eqv (.str l.name) = true then some (f y) else dget (ss (ys.map Lst.name)) (ys.map f) (.str l.name)) = _
    rw [eqv_str]
    rcases List.mem_cons.mp hl with e | e
    · subst e; simp
    · have ne : ¬ y.name = l.name := fun q => hn.1 (q ▸ List.mem_map_of_mem e)
      rw [if_neg (by simpa using ne)]
      exact ih hn.2 e
theorem idx_own (hn : L.names.Nodup) {l : Lst} (hl : l ∈ L.lists) : idxD T Φ (.dct (ss L.names) (L.lists.map Lst.pl)) (.str l.name) S = .ok l.pl S := by
  simp only [idxD, items_dct, dict_dct]
  rw [if_pos (okKey_ss _ _)]
  unfold Lore.names
  rw [dget_names _ hn hl]
theorem mem_names {l : Lst} (hl : l ∈ L.lists) : l.name ∈ L.names := List.mem_map_of_mem hl
@[simp] theorem atI_0 (a : D) (ds : List D) : L2.atI (a :: ds) 0 = some a := by simp [L2.atI, L2.ixN]
@[simp] theorem atI_1 (a b : D) (ds : List D) : L2.atI (a :: b :: ds) 1 = some b := by
  have h : (1 : Int) < (ds.length : Int) + 1 + 1 := by omega
  simp [L2.atI, L2.ixN, h]
@[simp] theorem idx_tup0 (a : D) (ds : List D) : idxD T Φ (.tup (a :: ds)) (.int 0) S = .ok a S := by
  simp only [idxD, items_tup, atI_0]
@[simp] theorem idx_tup1 (a b : D) (ds : List D) : idxD T Φ (.tup (a :: b :: ds)) (.int 1) S = .ok b S := by
  simp only [idxD, items_tup, atI_1]
@[simp] theorem idx_lst0 (a : D) (ds : List D) : idxD T Φ (.lst (a :: ds)) (.int 0) S = .ok a S := by
  simp only [idxD, items_lst, atI_0]
@[simp] theorem idx_lst1 (a b : D) (ds : List D) : idxD T Φ (.lst (a :: b :: ds)) (.int 1) S = .ok b S := by
  simp only [idxD, items_lst, atI_1]
@[simp] theorem mthK_own (f : Nat) (x : D) (ds : List D) : mthK Φ (.own f) x ds S = Φ f (x :: ds) S := rfl
@[simp] theorem mthK_bm (b : Bm) (x : D) (ds : List D) : mthK Φ (.bm b) x ds S = bmD b x ds S := rfl
theorem getitem_ok (H : HasP T) (hn : L.names.Nodup) {l : Lst} (hl : l ∈ L.lists) : Phi T W (n + 4) 46 [planD t L, .str l.name] S = .ok (kD l.own) S := by
  refine phi_rt H.f46 rfl rfl ?_
  simp [PB.f46, PB.b46, m_plan H.m17 rfl, check_list_ok H (mem_names hl), p_own H, idx_own hn hl, Lst.pl]
theorem idx_plan (H : HasP T) (hn : L.names.Nodup) {l : Lst} (hl : l ∈ L.lists) : idxD T (Phi T W (n + 4)) (planD t L) (.str l.name) S = .ok (kD l.own) S := by
  show ownD T (Phi T W (n + 4)) T.nmGet (planD t L) [.str l.name] S = _
  simp only [ownD, ins_plan, callM, H.nmGet, H.m5]
  exact getitem_ok H hn hl
theorem keys_of_ok (H : HasP T) (hn : L.names.Nodup) {l : Lst} (hl : l ∈ L.lists) : Phi T W (n + 4) 56 [planD t L, .str l.name] S = .ok (.tup (l.keys.map kD)) S := by
  refine phi_rt H.f56 rfl rfl ?_
  simp [PB.f56, PB.b56, m_plan H.m17 rfl, check_list_ok H (mem_names hl), p_own H, idx_own hn hl, Lst.pl]
end
end Z.M
end

section
set_option Elab.async false
set_option linter.all false
set_option maxRecDepth 100000
set_option maxHeartbeats 1000000
/-! Z, plain: keys of a plan, columns, wholes. -/
namespace Z.M
open PySem PySem.W
mutual
theorem und_le {j k : Nat} (h : j ≤ k) : ∀ d : D, d.und j = true → d.und k = true
  | .tup ds, e => unds_le h ds e
  | .lst ds, e => unds_le h ds e
  | .set ds, e => unds_le h ds e
  | .scr ds, e => unds_le h ds e
  | .dct ks vs, e => by
    have e' : (unds j ks && unds j vs) = true := e
    rw [Bool.and_eq_true] at e'
    show (unds k ks && unds k vs) = true
    rw [unds_le h ks e'.1, unds_le h vs e'.2]; rfl
  | .ins _ _ vs, e => unds_le h vs e
  | .exc _ v, e => und_le h v e
  | .ref n, e => by
    have e' : decide (n < j) = true := e
    show decide (n < k) = true
    simp at e' ⊢; omega
  | .non, _ => rfl
  | .bl _, _ => rfl
  | .int _, _ => rfl
  | .str _, _ => rfl
  | .fn _, _ => rfl
  | .cls _, _ => rfl
  | .ty _, _ => rfl
theorem unds_le {j k : Nat} (h : j ≤ k) : ∀ ds : List D, unds j ds = true → unds k ds = true
  | [], _ => rfl
  | d :: ds, e => by
    have e' : (d.und j && unds j ds) = true := e
    rw [Bool.and_eq_true] at e'
    show (d.und k && unds k ds) = true
    rw [und_le h d e'.1, unds_le h ds e'.2]; rfl
end
theorem unds_iff {k : Nat} : ∀ ds : List D, unds k ds = true ↔ ∀ d ∈ ds, d.und k = true
  | [] => by simp [unds]
  | d :: ds => by simp [unds, Bool.and_eq_true, unds_iff ds]
theorem frz_und {S : List O} {k m : Nat} {d : D} (h : d.und k = true) : frz S k m d = d := by
  cases m with
  | zero => rfl
  | succ m => unfold frz; rw [if_pos h]
theorem frz_map {S : List O} {k m : Nat} {ds : List D} (h : unds k ds = true) : ds.map (frz S k m) = ds := by
  rw [unds_iff] at h
  induction ds with
  | nil => rfl
  | cons d ds ih => rw [List.map_cons, frz_und (h d (by simp)), ih fun x hx => h x (by simp [hx])]
@[simp] theorem unds_ss (k : Nat) (l : List Str) : unds k (ss l) = true := (unds_iff _).mpr fun d hd => by
  obtain ⟨x, _, rfl⟩ := List.mem_map.mp hd
  rfl
theorem unds_map {α : Type} {k : Nat} {f : α → D} (h : ∀ x, (f x).und k = true) (l : List α) : unds k (l.map f) = true := (unds_iff _).mpr fun d hd => by
  obtain ⟨x, _, rfl⟩ := List.mem_map.mp hd
  exact h x
@[simp] theorem und_kD (k : Nat) (l : List Str) : (kD l).und k = true := unds_ss k l
@[simp] theorem und_akD (k : Nat) (a : Str × List Str × List Str) : (akD a).und k = true := by
  show (true && ((kD a.2.1).und k && ((kD a.2.2).und k && true))) = true
  simp
theorem get_at (S N : List O) (o : O) : (S ++ o :: N)[S.length]? = some o := by
  rw [List.getElem?_append_right (Nat.le_refl _), Nat.sub_self]; rfl
theorem set_at (S N : List O) (o o' : O) : (S ++ o :: N).set S.length o' = S ++ o' :: N := by
  rw [List.set_append_right _ _ (Nat.le_refl _), Nat.sub_self]; rfl
theorem get_at1 (S N : List O) (a o : O) : (S ++ a :: o :: N)[S.length + 1]? = some o := by
  rw [List.getElem?_append_right (by omega), show S.length + 1 - S.length = 1 by omega]; rfl
theorem set_at1 (S N : List O) (a o o' : O) : (S ++ a :: o :: N).set (S.length + 1) o' = S ++ a :: o' :: N := by
  rw [List.set_append_right _ _ (by omega), show S.length + 1 - S.length = 1 by omega]; rfl
/-- new things let go: a plain value -/
theorem fin_und {S N : List O} {d : D} (h : d.und S.length = true) : fin S d (S ++ N) = .ok d S := by
  unfold fin
  rw [frz_und h, List.take_left' rfl, if_pos ⟨by simp, h, .inl rfl⟩]
theorem fin_lst {S N : List O} {ds : List D} (h : unds S.length ds = true) : fin S (.ref S.length) (S ++ .lst ds :: N) = .ok (.lst ds) S := by
  have e : frz (S ++ .lst ds :: N) S.length 12 (.ref S.length) = .lst ds := by
    have g : (S ++ .lst ds :: N)[S.length]? = some (.lst ds) := get_at S N _
    unfold frz
    rw [if_neg (by simp [D.und])]
    simp only [g, frz_map h]
  unfold fin
  rw [e, List.take_left' rfl, if_pos ⟨by simp, h, .inl rfl⟩]
/-! lists that grow -/
section
variable {T : Tab} {Φ : Fn} {W n : Nat} {S S' : List O}
theorem ty_lst {i : Nat} {ds : List D} (h : S[i]? = some (.lst ds)) {b : Bm} (hb : b = .append ∨ b = .extend ∨ b = .pop) (m : Option Nat) : mtyp T (.ref i) (some b) m S = some (.bm b) := by
  simp only [mtyp, ins_refL h]
  rcases hb with rfl | rfl | rfl
  all_goals simp [bmFit, look_ref h]
theorem append_ok {i : Nat} {ds : List D} (h : S[i]? = some (.lst ds)) (hl : ds.length < lim) (d : D) : bmD .append (.ref i) [d] S = .ok .non (S.set i (.lst (ds ++ [d]))) := by
  simp only [bmD, h]
  rw [if_pos hl]
theorem extend_ok {i : Nat} {ds es : List D} (h : S[i]? = some (.lst ds)) (hl : ds.length + es.length ≤ lim) : bmD .extend (.ref i) [.lst es] S = .ok .non (S.set i (.lst (ds ++ es))) := by
  simp only [bmD, h, look_lst]
  rw [if_pos ⟨hl, rfl⟩]
variable {t : Str} {L : Lore}
theorem ak_len {L : Lore} {pre post : List Lst} {l : Lst} (e : L.lists = pre ++ l :: post) : (pre.flatMap Lst.ak).length + l.ak.length ≤ L.ak.length := by
  unfold Lore.ak
  rw [e, List.flatMap_append, List.flatMap_cons, List.length_append, List.length_append]
  omega
theorem all_keys_ok (H : HasP T) (hn : L.names.Nodup) (hl : L.ak.length ≤ 1000) : Phi T W (n + 5) 379 [planD t L] S = .ok (.lst (L.ak.map akD)) S := by
  have key : exs T (Phi T W (n + 4)) W PB.f379.body ([planD t L].map some ++ List.replicate (PB.f379.n - [planD t L].length) none) S = .ok (.rt (.ref S.length)) (S ++ [.lst (L.ak.map akD)]) := by
    simp [PB.f379, PB.b379, p_lists H]
    have e0 : ss L.names = L.lists.map fun l => D.str l.name := by unfold Lore.names; show (List.map _ _).map D.str = _; rw [List.map_map]; rfl
    rw [e0]
    have st : ∀ (pre : List Lst) (x : Lst) (post : List Lst) (σ : St) (S1 : List O), L.lists = pre ++ x :: post →
        (∃ z, σ = [some (planD t L), some (.ref S.length), z, none, none] ∧ S1 = S ++ [.lst ((pre.flatMap Lst.ak).map akD)]) →
        ∃ σ' σ2 S2, (LT.nm 2).put (D.str x.name) σ = some σ' ∧ exs T (Phi T W (n + 4)) W (.cons (.exp (.mth (.var 1) (some .extend) (some 24) (.cons (.lc false (.tup (.cons (.var 2) (.cons (.idx (.var 0) (.var 2)) (.cons (.var 4) .nil)))) (.nm 4) (.val (.mth (.var 0) none (some 46) (.cons (.var 2) .nil))) .no [3, 4]) .nil))) .nil) σ' S1 = .ok (.nx σ2) S2 ∧
          Keeps (S ++ [.lst []]) [] S2 ∧ (∃ z, σ2 = [some (planD t L), some (.ref S.length), z, none, none] ∧ S2 = S ++ [.lst (((pre ++ [x]).flatMap Lst.ak).map akD)]) := by
      rintro pre x post σ S1 e ⟨z, rfl, rfl⟩
      have hx : x ∈ L.lists := by rw [e]; simp
      have g := get_at S [] (.lst ((pre.flatMap Lst.ak).map akD))
      have hlen := ak_len e
      have hk : x.keys.length ≤ 1000 := by
        have : x.ak.length = x.keys.length := by unfold Lst.ak; rw [List.length_map]
        omega
      refine ⟨_, [some (planD t L), some (.ref S.length), some (.str x.name), none, none], S ++ [.lst (((pre ++ [x]).flatMap Lst.ak).map akD)], rfl, ?_, keeps_nil _ _, ⟨_, rfl, rfl⟩⟩
      simp [ty_lst g (.inr (.inl rfl)), m_plan H.m46 rfl, keys_of_ok H hn hx]
      rw [lcR_map x.keys kD (fun k => akD (x.name, x.own, k)) ?_ (by simp; omega)]
      · have e5 : x.ak.map akD = x.keys.map (fun k => akD (x.name, x.own, k)) := by
          simp [Lst.ak, List.map_map, Function.comp_def]
        have e6 : x.ak.length = x.keys.length := by simp [Lst.ak]
        rw [if_neg (by decide)]
        simp only [R.bind_ok, kEvs_ap, evs_nil, kEvs2_ap, kMth2_ap, mthK_bm]
        rw [extend_ok g (by simp only [List.length_map, lim_eq]; omega), set_at, e5]
        simp
      · intro k hk
        refine ⟨_, rfl, ?_⟩
        simp [idx_plan H hn hx]
        rfl
    obtain ⟨σ', S', e1, z, e2, e3⟩ := forR_inv (T := T) (Φ := Phi T W (n + 4)) (W := W) L.lists (fun l => D.str l.name) _ st (σ := [some (planD t L), some (.ref S.length), none, none, none]) (S := S ++ [.lst []]) ⟨_, rfl, rfl⟩
    rw [e1, e2, e3]
    simp
    rfl
  rw [phi_rtT H.f379 rfl rfl key]
  exact fin_lst (unds_map (und_akD _) _)
end
end Z.M
end

section
set_option Elab.async false
set_option linter.all false
set_option maxRecDepth 100000
set_option maxHeartbeats 1000000
/-! Z, plain: law k00 answers True. -/
namespace Z.M
open PySem PySem.W
section
variable {T : Tab} {Φ : Fn} {W : Nat} {S : List O} {σ : St}
theorem z_nx {s : LS} {rest : LSs} {σ σ' : St} {S1 : List O} (h : ex T Φ W s σ S = .ok (.nx σ') S1) : exs T Φ W (.cons s rest) σ S = exs T Φ W rest σ' S1 := by rw [exs_cons, h]; rfl
theorem z_asg {i : Nat} {e : LE} {σ : St} {d : D} {S1 : List O} (h : ev T Φ e σ S = .ok d S1) : ex T Φ W (.asg (.nm i) e) σ S = .ok (.nx (σ.set i (some d))) S1 := by rw [ex_asg, h]; rfl
theorem z_ret {e : LE} {σ : St} {d : D} {S1 : List O} (h : ev T Φ e σ S = .ok d S1) (rest : LSs) : exs T Φ W (.cons (.ret e) rest) σ S = .ok (.rt d) S1 := by rw [exs_cons, ex_ret, h]; rfl
theorem z_v {i : Nat} {σ : St} {d : D} (h : σ[i]? = some (some d)) : ev T Φ (.var i) σ S = .ok d S := by rw [ev_var, h]; rfl
theorem z_fin {xs : List D} {S1 : List O} (hu : ∀ k, unds k xs = true) : fin S (.lst xs) (S ++ S1) = .ok (.lst xs) S := fin_und (d := .lst xs) (hu _)
theorem z_finR {xs : List D} (hu : ∀ k, unds k xs = true) : fin S (.ref S.length) (S ++ [.lst xs]) = .ok (.lst xs) S := fin_lst (N := []) (hu _)
def bls (l : List Bool) : List D := l.map .bl
theorem py_bls : ∀ l : List Bool, pys (bls l) = some (l.map PyData.bool)
  | [] => rfl
  | b :: l => by
    show (match (D.bl b).py, pys (bls l) with | some x, some xs => some (x :: xs) | _, _ => none) = _
    rw [py_bls l]
    rfl
theorem dep_bls : ∀ l : List Bool, deps (bls l) = 0
  | [] => rfl
  | b :: l => by
    show max 0 (deps (bls l)) = 0
    rw [dep_bls l]
    rfl
theorem scr_bls : ∀ l : List Bool, notScrs (bls l) = true
  | [] => rfl
  | b :: l => by
    show ((D.bl b).notScr && notScrs (bls l)) = true
    rw [scr_bls l]
    rfl
theorem eqv_bls : ∀ l m : List Bool, eqvs (bls l) (bls m) = decide (l = m)
  | [], [] => rfl
  | [], _ :: _ => rfl
  | _ :: _, [] => rfl
  | a :: l, b :: m => by
    show ((a == b) && eqvs (bls l) (bls m)) = _
    rw [eqv_bls l m]
    by_cases h : a = b
    · subst h
      by_cases h2 : l = m
      · subst h2; simp
      · simp [h2]
    · simp [h]
theorem z_ne (l m : List Bool) : cmpD T Φ .NotEq (.lst (bls l)) (.lst (bls m)) S = .ok (D.bl (!decide (l = m))) S := by
  show (eqD (.lst (bls l)) (.lst (bls m)) S).bind (nbl true) = _
  unfold eqD
  rw [if_pos]
  · show R.bind (.ok (D.bl (eqvs (bls l) (bls m))) S) _ = _
    rw [eqv_bls, R.bind_ok, nbl_t]
  · refine ⟨?_, ?_, ?_, scr_bls m⟩
    · show ((pys (bls l)).map PyData.list).isSome = true
      rw [py_bls]; rfl
    · show ((pys (bls m)).map PyData.list).isSome = true
      rw [py_bls]; rfl
    · unfold flat2
      have : (D.lst (bls l)).dep = 1 := by
        show deps (bls l) + 1 = 1
        rw [dep_bls]
      rw [this]; rfl
theorem any_bls : ∀ l : List Bool, ((bls l).any fun d => d.eqv (.bl true)) = l.contains true
  | [] => rfl
  | b :: l => by
    show ((b == true) || ((bls l).any fun d => d.eqv (.bl true))) = _
    rw [any_bls l]
    cases b <;> simp
theorem z_in (l : List Bool) : inD T Φ (.bl true) (.lst (bls l)) S = .ok (D.bl (l.contains true)) S := by
  show (if (D.bl true).py.isSome ∧ (pys (bls l)).isSome ∧ flat2 (.bl true) (.tup (bls l)) ∧ (D.bl true).notScr then _ else _) = _
  rw [if_pos ⟨rfl, by rw [py_bls]; rfl, by unfold flat2; rfl, rfl⟩]
  show R.ok (D.bl ((bls l).any fun d => d.eqv (.bl true))) S = _
  rw [any_bls]
/-- found.extend([..]) -/
theorem z_ext {n a : Nat} {xs ys : List D} {es : LEs} {S0 : List O} (hn : σ[1]? = some (some (.ref S0.length))) (he : evs T Φ es σ (S0 ++ [.lst xs]) = .ok ys (S0 ++ [.lst xs])) (hl : xs.length + ys.length ≤ 1000) :
    ex T Φ W (.exp (.mth (.var 1) (some .extend) (some a) (.cons (.lst false es) .nil))) σ (S0 ++ [.lst xs]) = .ok (.nx σ) (S0 ++ [.lst (xs ++ ys)]) := by
  have g : (S0 ++ [O.lst xs])[S0.length]? = some (.lst xs) := by simp
  have m : mtyp T (.ref S0.length) (some .extend) (some a) (S0 ++ [.lst xs]) = some (.bm .extend) := by
    unfold mtyp
    rw [ins_refL g]
    dsimp only
    rw [bmOf_ref]
    rw [show bmFit (S0 ++ [.lst xs]) (.ref S0.length) .extend = true from by simp only [bmFit, look_ref g]]
    rfl
  rw [ex_exp, ev_mth, z_v hn, R.bind_ok, kMth_ap, m, mthR_bm, evs_cons, ev_lst, he, R.bind_ok, kLst_ap, if_pos (by rw [lim_eq]; omega), if_neg Bool.false_ne_true, R.bind_ok, kEvs_ap, evs_nil, R.bind_ok, kEvs2_ap, R.bind_ok, kMth2_ap]
  show R.bs (bmD .extend (.ref S0.length) [.lst ys] (S0 ++ [.lst xs])) _ _ = _
  simp only [bmD, g, look_lst]
  rw [if_pos ⟨by rw [lim_eq]; omega, rfl⟩]
  simp
theorem z_app {n a : Nat} {xs : List D} {y : D} {e : LE} {S0 : List O} (hn : σ[1]? = some (some (.ref S0.length))) (he : ev T Φ e σ (S0 ++ [.lst xs]) = .ok y (S0 ++ [.lst xs])) (hl : xs.length ≤ 1000) :
    ex T Φ W (.exp (.mth (.var 1) (some .append) (some a) (.cons e .nil))) σ (S0 ++ [.lst xs]) = .ok (.nx σ) (S0 ++ [.lst (xs ++ [y])]) := by
  have g : (S0 ++ [O.lst xs])[S0.length]? = some (.lst xs) := by simp
  have m : mtyp T (.ref S0.length) (some .append) (some a) (S0 ++ [.lst xs]) = some (.bm .append) := by
    unfold mtyp
    rw [ins_refL g]
    dsimp only
    rw [bmOf_ref]
    rw [show bmFit (S0 ++ [.lst xs]) (.ref S0.length) .append = true from by simp only [bmFit, look_ref g]]
    rfl
  rw [ex_exp, ev_mth, z_v hn, R.bind_ok, kMth_ap, m, mthR_bm, evs_cons, he, R.bind_ok, kEvs_ap, evs_nil, R.bind_ok, kEvs2_ap, R.bind_ok, kMth2_ap]
  show R.bs (bmD .append (.ref S0.length) [y] (S0 ++ [.lst xs])) _ _ = _
  simp only [bmD, g]
  rw [if_pos (by rw [lim_eq]; omega)]
  simp
end
/-! ### the errors -/
section
variable {Φ : Fn} {W : Nat} {S : List O} {σ : St}
def E29 : List Nat := [7, 19, 4, 16, 15, 10, 0, 8, 9, 2, 1, 17, 23, 28, 21, 34, 22, 27, 6, 11, 13, 36, 32, 24, 26, 25, 20, 3, 5]
def okC (c : Nat) : Bool := match K00.T.cls.lookup c with
  | some C => C.init.isNone && C.isExc && K00.T.errs.contains c
  | none => false
theorem newE {c : Nat} (h : okC c = true) (v : D) : newD K00.T Φ c [v] S = .ok (.exc c v) S := by
  unfold okC at h
  unfold newD
  cases hC : K00.T.cls.lookup c with
  | none =>
    rw [hC] at h
    cases h
  | some C =>
    rw [hC] at h
    obtain ⟨ini, fro, bas, ise⟩ := C
    simp only [Bool.and_eq_true] at h
    obtain ⟨⟨h1, h2⟩, h3⟩ := h
    dsimp only at h1 h2 ⊢
    have : ini = none := Option.isNone_iff_eq_none.mp h1
    subst this
    dsimp only
    rw [if_pos ⟨h2, h3⟩]
def mk29 (v : D) (l : List Nat) : List D := l.map fun c => .exc c v
def newsL : List Nat → LEs
  | [] => .nil
  | c :: l => .cons (.new c (.cons (.var 0) .nil)) (newsL l)
theorem ev_newE {c : Nat} (h : okC c = true) {v : D} (h0 : σ[0]? = some (some v)) : ev K00.T Φ (.new c (.cons (.var 0) .nil)) σ S = .ok (.exc c v) S := by
  rw [ev_new, evs_cons, z_v h0, R.bind_ok, kEvs_ap, evs_nil, R.bind_ok, kEvs2_ap, R.bind_ok, kNew_ap, newE h]
theorem evs_newsL {v : D} (h0 : σ[0]? = some (some v)) : ∀ {l : List Nat}, l.all okC = true → evs K00.T Φ (newsL l) σ S = .ok (mk29 v l) S
  | [], _ => evs_nil
  | c :: l, h => by
    obtain ⟨h1, h2⟩ := Bool.and_eq_true_iff.mp h
    show evs K00.T Φ (.cons (.new c (.cons (.var 0) .nil)) (newsL l)) σ S = _
    rw [evs_cons, ev_newE h1 h0, R.bind_ok, kEvs_ap, evs_newsL h0 h2, R.bind_ok, kEvs2_ap]
    rfl
theorem und_mk {v : D} (hv : ∀ k, v.und k = true) (l : List Nat) (k : Nat) : unds k (mk29 v l) = true := (unds_iff _).mpr fun d hd => by
  obtain ⟨c, _, rfl⟩ := List.mem_map.mp hd
  exact hv k
theorem made_ok {n : Nat} {v : D} (hv : ∀ k, v.und k = true) : Phi K00.T W (n + 1) 273 [v] S = .ok (.lst (mk29 v E29)) S := by
  rw [phi_rtT (d := .lst (mk29 v E29)) (S' := S ++ [.lst (mk29 v (E29.take 24))]) (F := K00.f273) rfl rfl rfl, z_fin (und_mk hv _)]
  show exs K00.T (Phi K00.T W n) W K00.b273 [some v, none] S = _
  unfold K00.b273
  have a1 : ex K00.T (Phi K00.T W n) W (.asg (.nm 1) (.lst true (newsL [7, 19, 4, 16, 15]))) [some v, none] S = .ok (.nx [some v, some (.ref S.length)]) (S ++ [.lst (mk29 v [7, 19, 4, 16, 15])]) := by
    refine z_asg ?_
    rw [ev_lst, evs_newsL rfl (by decide), R.bind_ok, kLst_ap, if_pos (by rw [lim_eq]; show 5 ≤ _; omega), if_pos rfl]
  refine (z_nx a1).trans ?_
  refine (z_nx (z_app (n := 0) (y := .exc 10 v) rfl (ev_newE (by decide) rfl) (by show 5 ≤ 1000; omega))).trans ?_
  refine (z_nx (z_ext (n := 0) (es := newsL [0, 8, 9, 2]) rfl (evs_newsL rfl (by decide)) (by show 6 + 4 ≤ 1000; omega))).trans ?_
  refine (z_nx (z_ext (n := 0) (es := newsL [1, 17, 23, 28, 21]) rfl (evs_newsL rfl (by decide)) (by show 10 + 5 ≤ 1000; omega))).trans ?_
  refine (z_nx (z_ext (n := 0) (es := newsL [34, 22, 27, 6, 11]) rfl (evs_newsL rfl (by decide)) (by show 15 + 5 ≤ 1000; omega))).trans ?_
  refine (z_nx (z_ext (n := 0) (es := newsL [13, 36, 32, 24]) rfl (evs_newsL rfl (by decide)) (by show 20 + 4 ≤ 1000; omega))).trans ?_
  refine z_ret ?_ _
  have e2 : ev K00.T (Phi K00.T W n) (.lst false (newsL [26, 25, 20, 3, 5])) [some v, some (.ref S.length)] (S ++ [.lst (mk29 v (E29.take 24))]) = .ok (.lst (mk29 v [26, 25, 20, 3, 5])) (S ++ [.lst (mk29 v (E29.take 24))]) := by
    rw [ev_lst, evs_newsL rfl (by decide), R.bind_ok, kLst_ap, if_pos (by rw [lim_eq]; show 5 ≤ _; omega), if_neg Bool.false_ne_true]
  show ev K00.T (Phi K00.T W n) (.bin .Add (.var 1) (.lst false (newsL [26, 25, 20, 3, 5]))) [some v, some (.ref S.length)] (S ++ [.lst (mk29 v (E29.take 24))]) = _
  rw [ev_bin, z_v (d := .ref S.length) rfl, R.bind_ok, kBin_ap, e2, R.bind_ok, kBin2_ap]
  have g : (S ++ [O.lst (mk29 v (E29.take 24))])[S.length]? = some (.lst (mk29 v (E29.take 24))) := by simp
  simp only [binD, look_ref g, look_lst]
  rw [if_pos (by rw [lim_eq]; show 24 + 5 ≤ _; omega)]
  rfl
/-- the values of which a kind is asked -/
inductive Er where | exc (c : Nat) | ve
def Er.ok : Er → Bool
  | .exc c => K00.T.errs.contains c
  | .ve => true
def Er.d (v : D) : Er → D
  | .exc c => .exc c v
  | .ve => .set []
def isk : Er → Nat → Bool
  | .exc c, d => c == d || K00.T.subc.contains (c, d)
  | .ve, _ => false
theorem isk_ok {x : Er} (hx : x.ok = true) {v : D} {d : Nat} (hd : K00.T.errs.contains d = true) : isinst K00.T S (x.d v) (.cls d) = .ok (.bl (isk x d)) S := by
  cases x with
  | exc c =>
    show (match Tab.isa K00.T (.exc c) (.cls d) with | some b => R.ok (D.bl b) S | none => .bad) = _
    have : Tab.isa K00.T (.exc c) (.cls d) = some (isk (.exc c) d) := by
      show (if K00.T.errs.contains c && K00.T.errs.contains d then _ else _) = _
      rw [show K00.T.errs.contains c = true from hx, hd]
      rfl
    rw [this]
  | ve =>
    show (match Tab.isa K00.T .verr (.cls d) with | some b => R.ok (D.bl b) S | none => .bad) = _
    have : Tab.isa K00.T .verr (.cls d) = some false := by
      show (if K00.T.errs.contains d then _ else _) = _
      rw [hd]
      rfl
    rw [this]
    rfl
theorem isv_ok {x : Er} (hx : x.ok = true) {v : D} : isinst K00.T S (x.d v) (.ty .valueError) = .ok (.bl true) S := by
  cases x with
  | exc c =>
    show (match Tab.isa K00.T (.exc c) (.ty .valueError) with | some b => R.ok (D.bl b) S | none => .bad) = _
    have : Tab.isa K00.T (.exc c) (.ty .valueError) = some true := by
      show (if K00.T.errs.contains c then _ else _) = _
      rw [show K00.T.errs.contains c = true from hx]
      rfl
    rw [this]
  | ve => rfl
def isL : List Nat → LEs
  | [] => .nil
  | c :: l => .cons (.bi .isinstance (.cons (.var 0) (.cons (.cst (.cls c)) .nil))) (isL l)
theorem evs_isL {x : Er} {v : D} (hx : x.ok = true) (h0 : σ[0]? = some (some (x.d v))) : ∀ {l : List Nat}, l.all (fun c => K00.T.errs.contains c) = true → evs K00.T Φ (isL l) σ S = .ok (bls (l.map (isk x))) S
  | [], _ => evs_nil
  | c :: l, h => by
    obtain ⟨h1, h2⟩ := Bool.and_eq_true_iff.mp h
    show evs K00.T Φ (.cons (.bi .isinstance (.cons (.var 0) (.cons (.cst (.cls c)) .nil))) (isL l)) σ S = _
    rw [evs_cons, ev_bi, evs_cons, z_v h0, R.bind_ok, kEvs_ap, evs_cons, ev_cst, R.bind_ok, kEvs_ap, evs_nil, R.bind_ok, kEvs2_ap, R.bind_ok, kEvs2_ap, R.bind_ok, kBi_ap, isin_def, isk_ok hx h1, R.bind_ok, kEvs_ap, evs_isL hx h0 h2, R.bind_ok, kEvs2_ap]
    rfl
theorem und_bls (l : List Bool) (k : Nat) : unds k (bls l) = true := (unds_iff _).mpr fun d hd => by
  obtain ⟨c, _, rfl⟩ := List.mem_map.mp hd
  rfl
theorem marked_ok {n : Nat} {x : Er} {v : D} (hx : x.ok = true) : Phi K00.T W (n + 1) 275 [x.d v] S = .ok (.lst (bls (E29.map (isk x)))) S := by
  rw [phi_rtT (d := .ref S.length) (S' := S ++ [.lst (bls (E29.map (isk x)))]) (F := K00.f275) rfl rfl rfl, z_finR (und_bls _)]
  show exs K00.T (Phi K00.T W n) W K00.b275 [some (x.d v), none] S = _
  unfold K00.b275
  have a1 : ex K00.T (Phi K00.T W n) W (.asg (.nm 1) (.lst true (isL [7, 19, 4]))) [some (x.d v), none] S = .ok (.nx [some (x.d v), some (.ref S.length)]) (S ++ [.lst (bls ([7, 19, 4].map (isk x)))]) := by
    refine z_asg ?_
    rw [ev_lst, evs_isL hx rfl (by decide), R.bind_ok, kLst_ap, if_pos (by rw [lim_eq]; show 3 ≤ _; omega), if_pos rfl]
  refine (z_nx a1).trans ?_
  refine (z_nx (z_ext (n := 0) (es := isL [16, 15, 10]) rfl (evs_isL hx rfl (by decide)) (by show 3 + 3 ≤ 1000; omega))).trans ?_
  refine (z_nx (z_ext (n := 0) (es := isL [0, 8, 9]) rfl (evs_isL hx rfl (by decide)) (by show 6 + 3 ≤ 1000; omega))).trans ?_
  refine (z_nx (z_ext (n := 0) (es := isL [2, 1, 17]) rfl (evs_isL hx rfl (by decide)) (by show 9 + 3 ≤ 1000; omega))).trans ?_
  refine (z_nx (z_ext (n := 0) (es := isL [23, 28, 21]) rfl (evs_isL hx rfl (by decide)) (by show 12 + 3 ≤ 1000; omega))).trans ?_
  refine (z_nx (z_ext (n := 0) (es := isL [34, 22, 27]) rfl (evs_isL hx rfl (by decide)) (by show 15 + 3 ≤ 1000; omega))).trans ?_
  refine (z_nx (z_ext (n := 0) (es := isL [6, 11, 13]) rfl (evs_isL hx rfl (by decide)) (by show 18 + 3 ≤ 1000; omega))).trans ?_
  refine (z_nx (z_ext (n := 0) (es := isL [36, 32, 24]) rfl (evs_isL hx rfl (by decide)) (by show 21 + 3 ≤ 1000; omega))).trans ?_
  refine (z_nx (z_ext (n := 0) (es := isL [26, 25, 20]) rfl (evs_isL hx rfl (by decide)) (by show 24 + 3 ≤ 1000; omega))).trans ?_
  refine (z_nx (z_ext (n := 0) (es := isL [3, 5]) rfl (evs_isL hx rfl (by decide)) (by show 27 + 2 ≤ 1000; omega))).trans ?_
  refine (z_ret (d := .ref S.length) (z_v rfl) _).trans ?_
  rfl
end
end Z.M
end

section
set_option Elab.async false
set_option linter.all false
set_option maxRecDepth 100000
set_option maxHeartbeats 1000000
/-! Z, plain: law k00, a value is kept. -/
namespace Z.M
open PySem PySem.W
section
variable {T : Tab} {Φ : Fn} {W : Nat} {S : List O} {σ : St}
theorem z_orF {a b : LE} (h : ev T Φ a σ S = .ok (.bl false) S) : ev T Φ (.or a b) σ S = ev T Φ b σ S := by rw [ev_or, h, R.bind_ok, kOr_ap, truth_bl]; rfl
theorem z_ifF {c : LE} {a b : LSs} (h : ev T Φ c σ S = .ok (.bl false) S) : ex T Φ W (.ifs c a b) σ S = exs T Φ W b σ S := by rw [ex_ifs, h]; rfl
theorem z_notT {a : LE} (h : ev T Φ a σ S = .ok (.bl true) S) : ev T Φ (.not a) σ S = .ok (.bl false) S := by rw [ev_not, h, R.bind_ok, kNot_ap, truth_bl]; rfl
theorem z_cmp {op : CmpOp} {a b : LE} {x y : D} {r : R D} (h1 : ev T Φ a σ S = .ok x S) (h2 : ev T Φ b σ S = .ok y S) (h3 : cmpD T Φ op x y S = r) : ev T Φ (.cmp op a b) σ S = r := by
  rw [ev_cmp, h1, R.bind_ok, kCmp_ap, h2, R.bind_ok, kCmp2_ap, h3]
theorem z_c1 {f : Nat} {e : LE} {x : D} (h : ev T Φ e σ S = .ok x S) : ev T Φ (.call f (.cons e .nil)) σ S = Φ f [x] S := by
  rw [ev_call, evs_cons, h, R.bind_ok, kEvs_ap, evs_nil, R.bind_ok, kEvs2_ap, R.bind_ok, kCall_ap]
theorem z_b1 {f : Bi} {e : LE} {x : D} (h : ev T Φ e σ S = .ok x S) : ev T Φ (.bi f (.cons e .nil)) σ S = biD T Φ f [x] S := by
  rw [ev_bi, evs_cons, h, R.bind_ok, kEvs_ap, evs_nil, R.bind_ok, kEvs2_ap, R.bind_ok, kBi_ap]
theorem z_is {e : LE} {x t : D} (h : ev T Φ e σ S = .ok x S) : ev T Φ (.bi .isinstance (.cons e (.cons (.cst t) .nil))) σ S = isinst T S x t := by
  rw [ev_bi, evs_cons, h, R.bind_ok, kEvs_ap, evs_cons, ev_cst, R.bind_ok, kEvs_ap, evs_nil, R.bind_ok, kEvs2_ap, R.bind_ok, kEvs2_ap, R.bind_ok, kBi_ap, isin_def]
/-- what is asked of the ten values -/
structure VOk (v : D) : Prop where
  und : ∀ k, v.und k = true
  rep : ∃ t, ∀ S, (look S v).rep1 = some t
theorem repr_ok {v : D} {t : Str} (h : ∀ S, (look S v).rep1 = some t) : biD T Φ .repr [v] S = .ok (.str t) S := by
  show (match (look S v).rep1 with | some t => R.ok (D.str t) S | none => .bad) = _
  rw [h S]
end
section
variable {Φ : Fn} {W n : Nat} {S : List O} {σ : St}
theorem atr_err {c : Nat} {v : D} (h : K00.T.errs.contains c = true) : atrD K00.T Φ (.exc c v) 91 S = .ok v S := by
  show (if K00.T.errs.contains c = true ∧ 91 = K00.T.nmVal then R.ok v S else .bad) = _
  rw [if_pos ⟨h, rfl⟩]
def cE (i : Nat) : Nat := E29.getD i 0
theorem cE_ok : ∀ i : Fin 29, K00.T.errs.contains (cE i.val) = true ∧ E29.map (isk (.exc (cE i.val))) = (List.range 29).map (fun a => decide ((0 + ((a : Nat) : Int)) = (i.val : Int))) ∧ isk (.exc (cE i.val)) 37 = true := by decide +kernel
theorem base_ok : K00.T.errs.contains 37 = true ∧ (E29.map (isk (.exc 37))).contains true = false ∧ (E29.map (isk .ve)).contains true = false ∧ okC 37 = true := by decide +kernel
theorem enm_mk (v : D) : enmL 0 (mk29 v E29) = (List.range 29).map fun i => .tup [.int (i : Nat), .exc (cE i) v] := by rfl
theorem comp29 {i : Nat} {a0 a2 a3 a4 a5 : Option D} : ev K00.T Φ (.lc false (.cmp .Eq (.var 5) (.var 1)) (.nm 5) (.rng (.cons (.cst (.int 29)) .nil)) .no [4, 5]) [a0, some (.int i), a2, a3, a4, a5] S =
    .ok (.lst (bls ((List.range 29).map (fun a => decide ((0 + ((a : Nat) : Int)) = (i : Int)))))) S := by
  have e : rngD [.int 29] = some ((List.range 29).map fun a => .int (0 + (a : Nat))) := by
    show (if -(2 ^ 62) ≤ (29 : Int) ∧ (29 : Int) < 2 ^ 62 then some (rng 0 29) else none) = _
    rw [if_pos (by decide)]
    rfl
  rw [ev_lc, evI_rng, evs_cons, ev_cst, R.bind_ok, kEvs_ap, evs_nil, R.bind_ok, kEvs2_ap, R.bind_ok, kRng_ap, e, wkR_some, R.bind_ok, kLc_ap]
  rw [lcR_map (List.range 29) (fun a => .int (0 + (a : Nat))) (fun a => .bl (decide ((0 + ((a : Nat) : Int)) = (i : Int)))) (fun a ha => ⟨_, rfl, ?_⟩) (by rw [List.length_range, lim_eq]; omega)]
  · rw [if_neg Bool.false_ne_true]
    unfold bls
    rw [List.map_map]
    rfl
  · exact z_cmp (z_v rfl) (z_v rfl) (cmp_eqI _ _)
theorem kept_ok {v : D} (hv : VOk v) : Phi K00.T W (n + 2) 200 [v] S = .ok (.bl true) S := by
  obtain ⟨t, ht⟩ := hv.rep
  refine phi_rt (F := K00.f200) rfl rfl rfl ?_
  show exs K00.T (Phi K00.T W (n + 1)) W K00.b200 [some v, none, none, none, none, none] S = _
  unfold K00.b200
  have hmade := made_ok (W := W) (n := n) (S := S) hv.und
  have e1 : evI K00.T (Phi K00.T W (n + 1)) (.enm (.call 273 (.cons (.var 0) .nil))) [some v, none, none, none, none, none] S = .ok ((List.range 29).map (fun i => .tup [.int (i : Nat), .exc (cE i) v]), []) S := by
    rw [evI_enm, z_c1 (z_v rfl), hmade, R.bind_ok, kEnm_ap, items_lst]
    show wkR (D.lst (mk29 v E29)).refs (some (enmL 0 (mk29 v E29))) S = _
    rw [enm_mk]
    rfl
  have rep0 : ∀ {a1 a2 a3 a4 a5 : Option D}, ev K00.T (Phi K00.T W (n + 1)) (.bi .repr (.cons (.var 0) .nil)) [some v, a1, a2, a3, a4, a5] S = .ok (.str t) S := fun {a1 a2 a3 a4 a5} => by
    rw [z_b1 (z_v rfl), repr_ok ht]
  obtain ⟨σ', S', hf, hI⟩ := forR_inv (T := K00.T) (Φ := Phi K00.T W (n + 1)) (W := W) (t := .tp (.cons (.nm 1) (.cons (.nm 2) .nil))) (b := (.cons (.ifs (.or (.cmp .NotEq (.call 275 (.cons (.var 2) .nil)) (.lc false (.cmp .Eq (.var 5) (.var 1)) (.nm 5) (.rng (.cons (.cst (.int 29)) .nil)) .no [4, 5])) (.cmp .NotEq (.bi .repr (.cons (.atr (.var 2) 91) .nil)) (.bi .repr (.cons (.var 0) .nil)))) (.cons (.ret (.cst (.bl false))) .nil) .nil) (.cons (.ifs (.or (.not (.bi .isinstance (.cons (.var 2) (.cons (.cst (.cls 37)) .nil)))) (.not (.bi .isinstance (.cons (.var 2) (.cons (.cst (.ty .valueError)) .nil))))) (.cons (.ret (.cst (.bl false))) .nil) .nil) .nil)))
    (S0 := S) (ns := []) (List.range 29) (fun i => .tup [.int (i : Nat), .exc (cE i) v]) (fun _ σ S1 => S1 = S ∧ ∃ a b, σ = [some v, a, b, none, none, none]) (fun pre i post σ S1 hxs hI => by
      obtain ⟨rfl, a, b, rfl⟩ := hI
      have hi : i < 29 := List.mem_range.mp (by rw [hxs]; simp)
      obtain ⟨k1, k2, k3⟩ := cE_ok ⟨i, hi⟩
      dsimp only at k1 k2 k3
      refine ⟨[some v, some (.int i), some (.exc (cE i) v), none, none, none], [some v, some (.int i), some (.exc (cE i) v), none, none, none], S1, rfl, ?_, keeps_self _ _, rfl, _, _, rfl⟩
      have m1 := marked_ok (W := W) (n := n) (S := S1) (x := .exc (cE i)) (v := v) k1
      have c1 : ev K00.T (Phi K00.T W (n + 1)) (.or (.cmp .NotEq (.call 275 (.cons (.var 2) .nil)) (.lc false (.cmp .Eq (.var 5) (.var 1)) (.nm 5) (.rng (.cons (.cst (.int 29)) .nil)) .no [4, 5])) (.cmp .NotEq (.bi .repr (.cons (.atr (.var 2) 91) .nil)) (.bi .repr (.cons (.var 0) .nil))))
          [some v, some (.int i), some (.exc (cE i) v), none, none, none] S1 = .ok (.bl false) S1 := by
        refine (z_orF (z_cmp ((z_c1 (z_v rfl)).trans m1) comp29 ?_)).trans ?_
        · rw [z_ne, k2]
          simp
        · have ea : ev K00.T (Phi K00.T W (n + 1)) (.atr (.var 2) 91) [some v, some (.int i), some (.exc (cE i) v), none, none, none] S1 = .ok v S1 := by
            rw [ev_atr, z_v rfl, R.bind_ok, kAtr_ap, atr_err k1]
          refine z_cmp ((z_b1 ea).trans (repr_ok ht)) rep0 ?_
          rw [cmp_neS]
          simp
      have c2 : ev K00.T (Phi K00.T W (n + 1)) (.or (.not (.bi .isinstance (.cons (.var 2) (.cons (.cst (.cls 37)) .nil)))) (.not (.bi .isinstance (.cons (.var 2) (.cons (.cst (.ty .valueError)) .nil)))))
          [some v, some (.int i), some (.exc (cE i) v), none, none, none] S1 = .ok (.bl false) S1 := by
        have h1 := isk_ok (S := S1) (x := .exc (cE i)) k1 (v := v) base_ok.1
        rw [k3] at h1
        refine (z_orF (z_notT ((z_is (z_v rfl)).trans h1))).trans (z_notT ((z_is (z_v rfl)).trans (isv_ok (x := .exc (cE i)) k1)))
      rw [z_nx (by rw [z_ifF c1]; exact exs_nil), z_nx (by rw [z_ifF c2]; exact exs_nil)]
      exact exs_nil) (σ := [some v, none, none, none, none, none]) (S := S) ⟨rfl, none, none, rfl⟩
  obtain ⟨rfl, a, b, rfl⟩ := hI
  have st1 := z_nx (T := K00.T) (Φ := Phi K00.T W (n + 1)) (W := W) (σ := [some v, none, none, none, none, none]) (S := S') (σ' := [some v, a, b, none, none, none]) (S1 := S') (rest := (.cons (.asg (.nm 3) (.new 37 (.cons (.var 0) .nil))) (.cons (.ifs (.or (.cmp .NotEq (.bi .repr (.cons (.atr (.var 3) 91) .nil)) (.bi .repr (.cons (.var 0) .nil))) (.or (.cmp .In (.cst (.bl true)) (.call 275 (.cons (.var 3) .nil))) (.not (.bi .isinstance (.cons (.var 3) (.cons (.cst (.ty .valueError)) .nil)))))) (.cons (.ret (.cst (.bl false))) .nil) .nil) (.cons (.ret (.cmp .NotIn (.cst (.bl true)) (.call 275 (.cons (.bi .valueError (.cons (.var 0) .nil)) .nil)))) .nil))))
    (s := .fors (.tp (.cons (.nm 1) (.cons (.nm 2) .nil))) (.enm (.call 273 (.cons (.var 0) .nil))) (.cons (.ifs (.or (.cmp .NotEq (.call 275 (.cons (.var 2) .nil)) (.lc false (.cmp .Eq (.var 5) (.var 1)) (.nm 5) (.rng (.cons (.cst (.int 29)) .nil)) .no [4, 5])) (.cmp .NotEq (.bi .repr (.cons (.atr (.var 2) 91) .nil)) (.bi .repr (.cons (.var 0) .nil)))) (.cons (.ret (.cst (.bl false))) .nil) .nil) (.cons (.ifs (.or (.not (.bi .isinstance (.cons (.var 2) (.cons (.cst (.cls 37)) .nil)))) (.not (.bi .isinstance (.cons (.var 2) (.cons (.cst (.ty .valueError)) .nil))))) (.cons (.ret (.cst (.bl false))) .nil) .nil) .nil))) (by
      rw [ex_fors, e1]
      exact hf)
  refine st1.trans ?_
  obtain ⟨b1, b2, b3, b4⟩ := base_ok
  refine (z_nx (z_asg (ev_newE b4 rfl))).trans ?_
  show exs K00.T (Phi K00.T W (n + 1)) W _ [some v, a, b, some (.exc 37 v), none, none] S' = _
  have c3 : ev K00.T (Phi K00.T W (n + 1)) (.or (.cmp .NotEq (.bi .repr (.cons (.atr (.var 3) 91) .nil)) (.bi .repr (.cons (.var 0) .nil))) (.or (.cmp .In (.cst (.bl true)) (.call 275 (.cons (.var 3) .nil))) (.not (.bi .isinstance (.cons (.var 3) (.cons (.cst (.ty .valueError)) .nil))))))
      [some v, a, b, some (.exc 37 v), none, none] S' = .ok (.bl false) S' := by
    have ea : ev K00.T (Phi K00.T W (n + 1)) (.atr (.var 3) 91) [some v, a, b, some (.exc 37 v), none, none] S' = .ok v S' := by
      rw [ev_atr, z_v rfl, R.bind_ok, kAtr_ap, atr_err b1]
    refine (z_orF (z_cmp ((z_b1 ea).trans (repr_ok ht)) rep0 (by rw [cmp_neS]; simp))).trans ?_
    refine (z_orF (z_cmp (ev_cst _) ((z_c1 (z_v rfl)).trans (marked_ok (x := .exc 37) b1)) ?_)).trans (z_notT ((z_is (z_v rfl)).trans (isv_ok (x := .exc 37) b1)))
    rw [cmp_in, z_in, b2]
    rfl
  refine (z_nx (by rw [z_ifF c3]; exact exs_nil)).trans ?_
  refine z_ret ?_ _
  have ev1 : ev K00.T (Phi K00.T W (n + 1)) (.bi .valueError (.cons (.var 0) .nil)) [some v, a, b, some (.exc 37 v), none, none] S' = .ok (.set []) S' := by
    rw [z_b1 (z_v rfl)]
    rfl
  refine z_cmp (ev_cst (.bl true)) ((z_c1 ev1).trans (marked_ok (x := .ve) (v := v) rfl)) ?_
  rw [cmp_nin, z_in, b3]
  rfl
end
end Z.M
end

section
set_option Elab.async false
set_option linter.all false
set_option maxRecDepth 100000
set_option maxHeartbeats 1000000
/-! Z, plain: law k00's equation. -/
namespace Z.M
open PySem PySem.W
theorem tl10 {i : Int} (h : i.natAbs < 10 ^ 9) : (Str.ofString (toString i)).length ≤ 10 := by
  rw [ofString_length]
  exact int_text_length_le10 (k := 9) (by omega) h
theorem lg {i : Int} (h : i.natAbs < 10 ^ 9) : i.natAbs.log2 < 1920 := by
  rcases Nat.eq_zero_or_pos i.natAbs with h0 | h0
  · rw [h0]; decide
  · have := (Nat.log2_lt (n := i.natAbs) (k := 30) (by omega)).mpr (by omega)
    omega
theorem vok_of {d : D} {p : PyData} (hl : ∀ S, look S d = d) (hu : ∀ k, d.und k = true) (hp : d.py = some p) (h1 : p.showable = true) (h2 : p.hasDict = false) (h3 : p.leavesShort 12 = true) (h4 : p.weight ≤ 1000) (h5 : p.depth ≤ 60) : VOk d := by
  refine ⟨hu, p.shown, fun S => ?_⟩
  rw [hl S]
  refine rep1_of ?_
  unfold D.rep
  rw [hp]
  dsimp only
  have := PyData.shown_le 12 (by omega) p h3
  rw [if_pos ⟨h1, h2, by rw [lim_eq]; omega, h5⟩]
section
variable {c : Int}
theorem shInt {i : Int} (h : i.natAbs < 10 ^ 9) : (PyData.int i).leavesShort 12 = true ∧ (PyData.int i).showable = true ∧ (PyData.int i).weight ≤ 31 := by
  refine ⟨?_, ?_, ?_⟩
  · simp only [PyData.leavesShort, decide_eq_true_eq]
    show (Str.ofString (toString i)).length ≤ 12
    have := tl10 h
    omega
  · simp only [PyData.showable, decide_eq_true_eq]
    exact lg h
  · simp only [PyData.weight]
    split
    · omega
    · rename_i h0
      have := (Nat.log2_lt (n := i.natAbs) (k := 30) (by simp at h0; omega)).mpr (by omega)
      omega
def txtC (c : Int) : Str := "text " ++ Str.ofString (toString c)
def L10 (c : Int) : List D := [.non, .int c, .int (-c), .bl true, .str (txtC c), .tup [.int c, .str "a"], .lst [.int c], .dct [.str "a"] [.int c], .tup [], .tup [.tup [.int c, .non], .lst []]]
theorem chars_ofs (s : String) : ∀ x ∈ (Str.ofString s).cps.toList, x < 16 ^ 8 := by
  intro x hx
  have e : (Str.ofString s).cps.toList = s.toList.map Char.toNat := by
    rw [Str.ofString_eq_toList]
  rw [e] at hx
  obtain ⟨ch, _, rfl⟩ := List.mem_map.mp hx
  have := ch.valid
  have h2 : ch.toNat < 1114112 := by
    rcases this with h | h
    · show ch.val.toNat < _; omega
    · show ch.val.toNat < _; omega
  omega
theorem L10_ok (h : c.natAbs < 10 ^ 9) : ∀ v ∈ L10 c, VOk v := by
  obtain ⟨a1, a2, a3⟩ := shInt h
  obtain ⟨b1, b2, b3⟩ := shInt (i := -c) (by omega)
  have d0 : (PyData.int c).depth = 0 := by simp only [PyData.depth]
  intro v hv
  simp only [L10, List.mem_cons, List.not_mem_nil, or_false] at hv
  rcases hv with rfl | rfl | rfl | rfl | rfl | rfl | rfl | rfl | rfl | rfl
  · exact vok_of (p := .none) (fun S => rfl) (fun k => rfl) rfl rfl rfl rfl (by decide) (by decide)
  · exact vok_of (p := .int c) (fun S => rfl) (fun k => rfl) rfl a2 (by simp only [PyData.hasDict]) a1 (by omega) (by simp only [PyData.depth]; omega)
  · exact vok_of (p := .int (-c)) (fun S => rfl) (fun k => rfl) rfl b2 (by simp only [PyData.hasDict]) b1 (by omega) (by simp only [PyData.depth]; omega)
  · exact vok_of (p := .bool true) (fun S => rfl) (fun k => rfl) rfl rfl rfl rfl (by decide) (by decide)
  · refine vok_of (p := .str (txtC c)) (fun S => rfl) (fun k => rfl) rfl (by simp only [PyData.showable]) (by simp only [PyData.hasDict]) ?_ ?_ (by simp only [PyData.depth]; omega)
    · simp only [PyData.leavesShort, List.all_eq_true, decide_eq_true_eq]
      intro x hx
      have e : (txtC c).cps.toList = (Str.ofString "text ").cps.toList ++ (Str.ofString (toString c)).cps.toList := by
        show (((Str.ofString "text ").cps ++ (Str.ofString (toString c)).cps)).toList = _
        simp
      rw [e] at hx
      rcases List.mem_append.mp hx with hx | hx
      · exact chars_ofs _ x hx
      · exact chars_ofs _ x hx
    · simp only [PyData.weight]
      have : (txtC c).length = 5 + (Str.ofString (toString c)).length := by
        unfold txtC
        rw [strLen_append]
        rfl
      have h2 := tl10 h
      show (txtC c).length ≤ 1000
      omega
  · refine vok_of (p := .tuple [.int c, .str "a"]) (fun S => rfl) (fun k => rfl) rfl ?_ ?_ ?_ ?_ ?_
    · simp only [PyData.showable, PyData.showableAll, Bool.and_true] at a2 ⊢; exact a2
    · simp [PyData.hasDict, PyData.hasDictAll]
    · simp only [PyData.leavesShort, PyData.leavesShortAll, Bool.and_eq_true] at a1 ⊢; exact ⟨a1, by decide +kernel, trivial⟩
    · simp only [PyData.weight, PyData.weightAll] at a3 ⊢; show _ + 1 + (1 + 1 + 0) ≤ _; omega
    · simp [PyData.depth, PyData.depthAll]
  · refine vok_of (p := .list [.int c]) (fun S => rfl) (fun k => rfl) rfl ?_ ?_ ?_ ?_ ?_
    · simp only [PyData.showable, PyData.showableAll, Bool.and_true] at a2 ⊢; exact a2
    · simp [PyData.hasDict, PyData.hasDictAll]
    · simp only [PyData.leavesShort, PyData.leavesShortAll, Bool.and_eq_true] at a1 ⊢; exact ⟨a1, trivial⟩
    · simp only [PyData.weight, PyData.weightAll] at a3 ⊢; omega
    · simp [PyData.depth, PyData.depthAll]
  · refine ⟨fun k => rfl, (PyData.dict [(.str "a", .int c)]).shown, fun S => ?_⟩
    show (D.dct [.str "a"] [.int c]).rep1 = _
    unfold D.rep1
    have h3 := PyData.shown_le 12 (by omega) (.dict [(.str "a", .int c)]) (by
      simp only [PyData.leavesShort, PyData.leavesShortKv, Bool.and_eq_true] at a1 ⊢; exact ⟨⟨by decide +kernel, a1⟩, trivial⟩)
    have h4 : (PyData.dict [(.str "a", .int c)]).weight ≤ 1000 := by
      simp only [PyData.weight, PyData.weightKv] at a3 ⊢; show 1 + _ + 2 + 0 ≤ _; omega
    dsimp only
    rw [if_pos ⟨by simp only [PyData.showable, PyData.showableKv, Bool.and_true, Bool.true_and] at a2 ⊢; exact a2, by rw [lim_eq]; omega⟩]
  · exact vok_of (p := .tuple []) (fun S => rfl) (fun k => rfl) rfl rfl rfl rfl (by decide) (by decide)
  · refine vok_of (p := .tuple [.tuple [.int c, .none], .list []]) (fun S => rfl) (fun k => rfl) rfl ?_ ?_ ?_ ?_ ?_
    · simp only [PyData.showable, PyData.showableAll, Bool.and_true] at a2 ⊢; exact a2
    · simp [PyData.hasDict, PyData.hasDictAll]
    · simp only [PyData.leavesShort, PyData.leavesShortAll, Bool.and_eq_true] at a1 ⊢; exact ⟨⟨a1, trivial, trivial⟩, trivial, trivial⟩
    · simp only [PyData.weight, PyData.weightAll] at a3 ⊢; omega
    · simp [PyData.depth, PyData.depthAll]
end
section
variable {T : Tab} {Φ : Fn} {W n : Nat} {S : List O} {σ : St}
theorem e_c {e : LE} {es : LEs} {x : D} {xs : List D} (h1 : ev T Φ e σ S = .ok x S) (h2 : evs T Φ es σ S = .ok xs S) : evs T Φ (.cons e es) σ S = .ok (x :: xs) S := by
  rw [evs_cons, h1, R.bind_ok, kEvs_ap, h2, R.bind_ok, kEvs2_ap]
theorem e_tup {es : LEs} {xs : List D} (h : evs T Φ es σ S = .ok xs S) (hl : xs.length ≤ 1000) : ev T Φ (.tup es) σ S = .ok (.tup xs) S := by
  rw [ev_tup, h, R.bind_ok, kTup_ap, if_pos (by rw [lim_eq]; omega)]
theorem e_lst {es : LEs} {xs : List D} (h : evs T Φ es σ S = .ok xs S) (hl : xs.length ≤ 1000) : ev T Φ (.lst false es) σ S = .ok (.lst xs) S := by
  rw [ev_lst, h, R.bind_ok, kLst_ap, if_pos (by rw [lim_eq]; omega), if_neg Bool.false_ne_true]
theorem e_dct {k : Str} {e : LE} {x : D} (h : ev T Φ e σ S = .ok x S) : ev T Φ (.dct false (.cons (.cst (.str k)) .nil) (.cons e .nil)) σ S = .ok (.dct [.str k] [x]) S := by
  rw [ev_dct, e_c (ev_cst _) evs_nil, R.bind_ok, kDct_ap, e_c h evs_nil, R.bind_ok, kDct2_ap]
  rfl
theorem e_add {k : Str} {e : LE} {t : Str} (h : ev T Φ e σ S = .ok (.str t) S) (hl : k.length + t.length ≤ 1000) : ev T Φ (.bin .Add (.cst (.str k)) e) σ S = .ok (.str (k ++ t)) S := by
  rw [ev_bin, ev_cst, R.bind_ok, kBin_ap, h, R.bind_ok, kBin2_ap]
  show (if k.length + t.length ≤ lim then R.ok (D.str (k ++ t)) S else .bad) = _
  rw [if_pos (by rw [lim_eq]; omega)]
theorem e_neg {e : LE} {i : Int} (h : ev T Φ e σ S = .ok (.int i) S) : ev T Φ (.neg e) σ S = .ok (.int (-i)) S := by
  rw [ev, h]
  rfl
theorem pys_int : ∀ l : List Int, pys (l.map D.int) = some (l.map PyData.int)
  | [] => rfl
  | i :: l => by
    show (match (D.int i).py, pys (l.map D.int) with | some x, some xs => some (x :: xs) | _, _ => none) = _
    rw [pys_int l]
    rfl
/-- the first cell, or zero -/
def cell0 (ns : List Int) : Int := match ns with
  | [] => 0
  | i :: _ => i
theorem cell_ok (ns : List Int) (b c d e : Option D) : ev T Φ (.ite (.cmp .NotEq (.var 0) (.lst false .nil)) (.idx (.var 0) (.cst (.int 0))) (.cst (.int 0))) [some (.scr (ns.map .int)), b, c, d, e] S = .ok (.int (cell0 ns)) S := by
  have hc : ev T Φ (.cmp .NotEq (.var 0) (.lst false .nil)) [some (.scr (ns.map .int)), b, c, d, e] S = .ok (.bl (!ns.isEmpty)) S := by
    refine z_cmp (z_v rfl) (e_lst evs_nil (by show 0 ≤ 1000; omega)) ?_
    show (eqD (.scr (ns.map .int)) (.lst []) S).bind (nbl true) = _
    unfold eqD
    rw [if_pos]
    · show R.bind (.ok (D.bl (eqvs (ns.map .int) [])) S) _ = _
      rw [R.bind_ok, nbl_t]
      cases ns <;> rfl
    · refine ⟨?_, rfl, ?_, rfl⟩
      · show ((pys (ns.map .int)).map PyData.list).isSome = true
        rw [pys_int]; rfl
      · unfold flat2
        have : (D.lst []).dep = 1 := rfl
        rw [this]
        simp
  cases ns with
  | nil =>
    rw [ev_ite, hc, R.bind_ok, kIte_ap, truth_bl]
    exact ev_cst (T := T) (Φ := Φ) (σ := [some (.scr (([] : List Int).map .int)), b, c, d, e]) (.int 0)
  | cons i l =>
    rw [ev_ite, hc, R.bind_ok, kIte_ap, truth_bl]
    show ev T Φ (.idx (.var 0) (.cst (.int 0))) [some (.scr ((i :: l).map .int)), b, c, d, e] S = _
    rw [ev_idx, z_v rfl, R.bind_ok, kIdx_ap, ev_cst, R.bind_ok, kIdx2_ap]
    show idxD T Φ (.scr (.int i :: l.map .int)) (.int 0) S = _
    simp only [idxD, items_scr, atI_0]
    rfl
theorem law_ok00 (ns : List Int) : Phi K00.T W (n + 3) 451 [.scr (ns.map .int)] S = .ok (.bl true) S := by
  refine phi_rt (F := K00.f451) rfl rfl rfl ?_
  show exs K00.T (Phi K00.T W (n + 2)) W K00.b451 [some (.scr (ns.map .int)), none, none, none, none] S = _
  unfold K00.b451
  have hc : ev K00.T (Phi K00.T W (n + 2)) (.bin .Mod (.bi .int (.cons (.ite (.cmp .NotEq (.var 0) (.lst false .nil)) (.idx (.var 0) (.cst (.int 0))) (.cst (.int 0))) .nil)) (.bin .Pow (.cst (.int 10)) (.cst (.int 9)))) [some (.scr (ns.map .int)), none, none, none, none] S =
      .ok (.int (cell0 ns % 1000000000)) S := by
    rw [ev_bin, z_b1 (cell_ok ns _ _ _ _), int_int, R.bind_ok, kBin_ap, ev_bin, ev_cst, R.bind_ok, kBin_ap, ev_cst, R.bind_ok, kBin2_ap]
    have hp : binD K00.T (Phi K00.T W (n + 2)) .Pow (.int 10) (.int 9) S = .ok (.int 1000000000) S := by
      show (if 1 ≤ (9 : Int) ∧ (9 : Int) ≤ 1000 ∧ 2 ≤ (10 : Int) ∧ (10 : Int).natAbs < 2 ^ 256 then R.ok (D.int ((10 : Int) ^ (9 : Int).toNat)) S else .bad) = _
      rw [if_pos (by decide)]
      rfl
    rw [hp, R.bind_ok, kBin2_ap]
    show (if 0 < (1000000000 : Int) then R.ok (D.int (cell0 ns % 1000000000)) S else .bad) = _
    rw [if_pos (by decide)]
  refine (z_nx (z_asg hc)).trans ?_
  generalize hcc : cell0 ns % 1000000000 = c
  have h0 : c.natAbs < 10 ^ 9 := by omega
  show exs K00.T (Phi K00.T W (n + 2)) W _ [some (.scr (ns.map .int)), some (.int c), none, none, none] S = _
  have v1 : ev K00.T (Phi K00.T W (n + 2)) (.var 1) [some (.scr (ns.map .int)), some (.int c), none, none, none] S = .ok (.int c) S := z_v rfl
  have sC : ev K00.T (Phi K00.T W (n + 2)) (.bi .str (.cons (.var 1) .nil)) [some (.scr (ns.map .int)), some (.int c), none, none, none] S = .ok (.str (Str.ofString (toString c))) S := by
    rw [z_b1 v1]
    show (if c.natAbs.log2 < 1920 then R.ok (D.str (Str.ofString (toString c))) S else .bad) = _
    rw [if_pos (lg h0)]
  have t10 := tl10 h0
  refine (z_nx (z_asg (d := .lst (L10 c)) (e_lst (e_c (ev_cst _) (e_c v1 (e_c (e_neg v1) (e_c (ev_cst _) (e_c (e_add (t := Str.ofString (toString c)) sC (by show 5 + _ ≤ 1000; omega)) (e_c (e_tup (e_c v1 (e_c (ev_cst _) evs_nil)) (by show 2 ≤ 1000; omega)) (e_c (e_lst (e_c v1 evs_nil) (by show 1 ≤ 1000; omega))
    (e_c (e_dct v1) (e_c (e_tup evs_nil (by show 0 ≤ 1000; omega)) (e_c (e_tup (e_c (e_tup (e_c v1 (e_c (ev_cst _) evs_nil)) (by show 2 ≤ 1000; omega)) (e_c (e_lst evs_nil (by show 0 ≤ 1000; omega)) evs_nil)) (by show 2 ≤ 1000; omega)) evs_nil)))))))))) (by show 10 ≤ 1000; omega)))).trans ?_
  refine z_ret ?_ _
  show ev K00.T (Phi K00.T W (n + 2)) (.bi .all (.cons (.lc false (.call 200 (.cons (.var 4) .nil)) (.nm 4) (.val (.var 2)) .no [3, 4]) .nil)) [some (.scr (ns.map .int)), some (.int c), some (.lst (L10 c)), none, none] S = _
  have hl : ev K00.T (Phi K00.T W (n + 2)) (.lc false (.call 200 (.cons (.var 4) .nil)) (.nm 4) (.val (.var 2)) .no [3, 4]) [some (.scr (ns.map .int)), some (.int c), some (.lst (L10 c)), none, none] S = .ok (.lst ((L10 c).map fun _ => .bl true)) S := by
    rw [ev_lc, evI_val, z_v (d := .lst (L10 c)) rfl, R.bind_ok, kVal_ap, walk_lst, wkR_some, R.bind_ok, kLc_ap]
    have e := lcR_map (T := K00.T) (Φ := Phi K00.T W (n + 2)) (mu := false) (e := .call 200 (.cons (.var 4) .nil)) (t := .nm 4) (own := [3, 4]) (σ := [some (.scr (ns.map .int)), some (.int c), some (.lst (L10 c)), none, none]) (S := S) (rs := (D.lst (L10 c)).refs) (L10 c) id (fun _ => .bl true) (fun x hx => ⟨_, rfl, (z_c1 (z_v rfl)).trans (kept_ok (L10_ok h0 x hx))⟩) (by show 10 ≤ lim; rw [lim_eq]; omega)
    rw [List.map_id, if_neg Bool.false_ne_true] at e
    exact e
  rw [z_b1 hl]
  exact (all_bl (T := K00.T) (Φ := Phi K00.T W (n + 2)) (S := S) (L10 c) (fun _ => true)).trans (by rfl)
end
end Z.M
end

section
set_option Elab.async false
set_option linter.all false
set_option maxRecDepth 100000
set_option maxHeartbeats 0
theorem PySem.Challenge.cw_unseenwhole_k00_errors_and_what_they_kee_holds : PySem.Challenge.rw_unseenwhole_k00_errors_and_what_they_kee.Holds := by
  exact K00.holds fun ns h => ⟨[], Z.M.law_ok00 (n := 37) ns⟩
end
